import PyProof.Rows.All
import Wide.All
import OpenK.AllK
import Wide.FinOn
import HandS.ForMost
import KE.KDictKeyed
import HandS.Walk
import HandS.Deep
import HandS.TupAny
import HandS.IsInst
import KE.SortData
import HandS.Conv
import HandS.Zip
import HandS.SortKw
import KE.DataMinMax
import KE.DataFind
import KE.GoesMore
import PyProof.DictMoreH
import KE.KDictWalk
import PySem.Challenge.RW_nobadday_k75_runs_judged
set_option Elab.async false
set_option linter.all false
set_option maxRecDepth 100000
set_option maxHeartbeats 4000000
/-! The tree layer, 1: trees, what stands for them, worlds. -/
namespace G
open PySem L2

inductive T where
  | non | bl (b : Bool) | int (i : Int) | str (x : Str) | ty (n : String) | rf (a : Addr)
  | tup (xs : List T) | lst (xs : List T) | scr (xs : List T) | wtp (xs : List T)
  | ins (C : Addr) (ks : List Str) (xs : List T)
  | dK (ks : List Key) (xs : List T)
  | dT (ks : List (List Key)) (xs : List T)
  | dN (ks : List NestedKey) (xs : List T)

/-- the written part, and the world (its hashes) -/
structure Fg where
  fr : PySem.W.Frag
  w : World
instance : CoeOut Fg PySem.W.Frag := ⟨Fg.fr⟩
/-- a key, as it stands -/
inductive KRep (B : Hp) : V → NestedKey → Prop
  | non : KRep B .non .none
  | num (i : Int) : KRep B (.int i) (.num i)
  | text (x : Str) : KRep B (.str x) (.text x)
  | tup {a : Addr} {vs : List V} {ks : List NestedKey} : B a = some (.tup vs) → vs.length = ks.length → (∀ (i : Nat) (v : V) (k : NestedKey), vs[i]? = some v → ks[i]? = some k → KRep B v k) → KRep B (.ref a) (.tup ks)
/-- a dict whose keys are nested tuples: what is true of its object -/
def NdP (w : World) (d : Addr) (ep : Nat) (ks : List NestedKey) (bs : List Addr) (vs : List V) : Heap → Prop := fun h => vs.length ≤ sizeLine ∧ (d == sysModules) = false ∧ ks.Nodup ∧ (∀ k ∈ ks, k.depth ≤ 8) ∧
  ∃ (us : List Value) (o : Obj) (es : Array DictEntry), Vals vs us ∧ h.get? d = some o ∧ o.ExactDict ∧ o.data = .dict es ep ∧ es.toList = (ks.zip (bs.zip us)).map fun x => ⟨x.1.hash w, .ref x.2.1, x.2.2⟩
def NdO (w : World) (d : Addr) (ep : Nat) (ks : List NestedKey) (bs : List Addr) (vs : List V) : HO := .ext (NdP w d ep ks bs vs)
theorem KRep.mono {B B' : Hp} (e : Same B B') {v : V} {k : NestedKey} (h : KRep B v k) : KRep B' v k := by
  induction h with
  | non => exact .non
  | num i => exact .num i
  | text x => exact .text x
  | tup h l _ ih => exact .tup (e _ _ h) l ih
/-- keys at their places -/
def KAts (B : Hp) (bs : List Addr) (ks : List NestedKey) : Prop := bs.length = ks.length ∧ ∀ (i : Nat) (b : Addr) (k : NestedKey), bs[i]? = some b → ks[i]? = some k → KRep B (.ref b) k
theorem KAts.mono {B B' : Hp} (e : Same B B') {bs : List Addr} {ks : List NestedKey} (h : KAts B bs ks) : KAts B' bs ks :=
  ⟨h.1, fun i b k h1 h2 => (h.2 i b k h1 h2).mono e⟩
mutual
inductive Rep (K : Fg) (B : Hp) : V → T → Prop
  | non : Rep K B .non .non
  | bl (b : Bool) : Rep K B (.bl b) (.bl b)
  | int (i : Int) : Rep K B (.int i) (.int i)
  | str (x : Str) : Rep K B (.str x) (.str x)
  | ty (n : String) : Rep K B (.ty n) (.ty n)
  | rf (a : Addr) : Rep K B (.ref a) (.rf a)
  | tup {a : Addr} {vs : List V} {ts : List T} : B a = some (.tup vs) → Reps K B vs ts → Rep K B (.ref a) (.tup ts)
  | wtp {a : Addr} {vs : List V} {ts : List T} : SqT K B a vs → Reps K B vs ts → Rep K B (.ref a) (.wtp ts)
  | lst {a : Addr} {vs : List V} {ts : List T} : B a = some (.lst vs) → Reps K B vs ts → Rep K B (.ref a) (.lst ts)
  | scr {a : Addr} {vs : List V} {ts : List T} : SqL K B a vs → Reps K B vs ts → Rep K B (.ref a) (.scr ts)
  | ins {a C dx : Addr} {ks : List Str} {vs : List V} {ts : List T} : B a = some (.ins C dx (ks.zip vs)) → ks.length = vs.length → Reps K B vs ts → Rep K B (.ref a) (.ins C ks ts)
  | dK {a : Addr} {ks : List Key} {vs : List V} {ts : List T} : B a = some (.dK (ks.zip vs)) → ks.length = vs.length → Reps K B vs ts → Rep K B (.ref a) (.dK ks ts)
  | dT {a : Addr} {ks : List (List Key)} {vs : List V} {ts : List T} : B a = some (.dT (ks.zip vs)) → ks.length = vs.length → Reps K B vs ts → Rep K B (.ref a) (.dT ks ts)
  | dN {a : Addr} {ep : Nat} {ks : List NestedKey} {bs : List Addr} {vs : List V} {ts : List T} : B a = some (NdO K.w a ep ks bs vs) → ks.length = vs.length → KAts B bs ks → Reps K B vs ts → Rep K B (.ref a) (.dN ks ts)
inductive Reps (K : Fg) (B : Hp) : List V → List T → Prop
  | nil : Reps K B [] []
  | cons {v : V} {vs : List V} {t : T} {ts : List T} : Rep K B v t → Reps K B vs ts → Reps K B (v :: vs) (t :: ts)
end

theorem same_rd {H H' : Hp} {a : Addr} {u : HO} (e : Same H H') (h : Rd H a u) : Rd H' a u := by
  rcases h with h | ⟨o, h⟩
  · exact .inl (e _ _ h)
  · exact .inr ⟨o, e _ _ h⟩
theorem same_l {K : Fg} {H H' : Hp} {a : Addr} {xs : List V} (e : Same H H') (h : SqL K H a xs) : SqL K H' a xs := by
  rcases h with h | h
  · exact .inl (same_rd e h)
  · exact .inr h
theorem same_t {K : Fg} {H H' : Hp} {a : Addr} {xs : List V} (e : Same H H') (h : SqT K H a xs) : SqT K H' a xs := by
  rcases h with h | h
  · exact .inl (same_rd e h)
  · exact .inr h
mutual
theorem Rep.mono {K : Fg} {B B' : Hp} (e : Same B B') : ∀ {t : T} {v : V}, Rep K B v t → Rep K B' v t
  | .non, _, h => by cases h; exact .non
  | .bl _, _, h => by cases h; exact .bl _
  | .int _, _, h => by cases h; exact .int _
  | .str _, _, h => by cases h; exact .str _
  | .ty _, _, h => by cases h; exact .ty _
  | .rf _, _, h => by cases h; exact .rf _
  | .tup ts, _, h => by cases h with | tup a b => exact .tup (e _ _ a) (Reps.mono e b)
  | .wtp ts, _, h => by cases h with | wtp a b => exact .wtp (same_t e a) (Reps.mono e b)
  | .lst ts, _, h => by cases h with | lst a b => exact .lst (e _ _ a) (Reps.mono e b)
  | .scr ts, _, h => by cases h with | scr a b => exact .scr (same_l e a) (Reps.mono e b)
  | .ins _ _ ts, _, h => by cases h with | ins a l b => exact .ins (e _ _ a) l (Reps.mono e b)
  | .dK _ ts, _, h => by cases h with | dK a l b => exact .dK (e _ _ a) l (Reps.mono e b)
  | .dT _ ts, _, h => by cases h with | dT a l b => exact .dT (e _ _ a) l (Reps.mono e b)
  | .dN _ ts, _, h => by cases h with | dN a l q b => exact .dN (e _ _ a) l (q.mono e) (Reps.mono e b)
theorem Reps.mono {K : Fg} {B B' : Hp} (e : Same B B') : ∀ {ts : List T} {vs : List V}, Reps K B vs ts → Reps K B' vs ts
  | [], _, h => by cases h; exact .nil
  | t :: ts, _, h => by cases h with | cons a b => exact .cons (Rep.mono e a) (Reps.mono e b)
end
theorem Reps.length {K : Fg} {B : Hp} : ∀ {vs : List V} {ts : List T}, Reps K B vs ts → vs.length = ts.length
  | _, _, .nil => rfl
  | _, _, .cons _ h => congrArg (· + 1) (Reps.length h)
theorem Reps.get {K : Fg} {B : Hp} : ∀ {vs : List V} {ts : List T} {i : Nat} {t : T}, Reps K B vs ts → ts[i]? = some t → ∃ v, vs[i]? = some v ∧ Rep K B v t
  | _, _, _, _, .nil, e => by simp at e
  | _, _, 0, _, .cons r _, e => by simp at e; subst e; exact ⟨_, rfl, r⟩
  | _, _, i + 1, _, .cons _ h, e => by
    obtain ⟨v, h1, h2⟩ := Reps.get (i := i) h (by simpa using e)
    exact ⟨v, by simpa using h1, h2⟩
theorem Reps.getV {K : Fg} {B : Hp} : ∀ {vs : List V} {ts : List T} {i : Nat} {v : V}, Reps K B vs ts → vs[i]? = some v → ∃ t, ts[i]? = some t ∧ Rep K B v t
  | _, _, _, _, .nil, e => by simp at e
  | _, _, 0, _, .cons r _, e => by simp at e; subst e; exact ⟨_, rfl, r⟩
  | _, _, i + 1, _, .cons _ h, e => by
    obtain ⟨v, h1, h2⟩ := Reps.getV (i := i) h (by simpa using e)
    exact ⟨v, by simpa using h1, h2⟩
theorem Reps.append {K : Fg} {B : Hp} : ∀ {vs us : List V} {ts ss : List T}, Reps K B vs ts → Reps K B us ss → Reps K B (vs ++ us) (ts ++ ss)
  | _, _, _, _, .nil, h => h
  | _, _, _, _, .cons r q, h => .cons r (Reps.append q h)
theorem Reps.take {K : Fg} {B : Hp} : ∀ {vs : List V} {ts : List T} (n : Nat), Reps K B vs ts → Reps K B (vs.take n) (ts.take n)
  | _, _, 0, _ => by simp; exact .nil
  | _, _, _ + 1, .nil => .nil
  | _, _, n + 1, .cons r h => .cons r (Reps.take n h)
theorem Reps.drop {K : Fg} {B : Hp} : ∀ {vs : List V} {ts : List T} (n : Nat), Reps K B vs ts → Reps K B (vs.drop n) (ts.drop n)
  | _, _, 0, h => h
  | _, _, _ + 1, .nil => .nil
  | _, _, n + 1, .cons _ h => Reps.drop n h

/-! ### worlds -/
inductive W where
  | cl (t : T) | pt (i : Nat)
inductive Cell where
  | lst (ws : List W) | fz (t : T)
  | ins (C : Addr) (ks : List Str) (ws : List W)
  | dK (ks : List Key) (ws : List W)
  | dT (ks : List (List Key)) (ws : List W)
  | dN (ks : List NestedKey) (ws : List W)
abbrev Cs := List Cell
abbrev Loc := List (Option W)

inductive RepW (K : Fg) (B : Hp) (ads : List Addr) : V → W → Prop
  | cl {v : V} {t : T} : Rep K B v t → RepW K B ads v (.cl t)
  | pt {i : Nat} {a : Addr} : ads[i]? = some a → RepW K B ads (.ref a) (.pt i)
inductive RepWs (K : Fg) (B : Hp) (ads : List Addr) : List V → List W → Prop
  | nil : RepWs K B ads [] []
  | cons {v : V} {vs : List V} {w : W} {ws : List W} : RepW K B ads v w → RepWs K B ads vs ws → RepWs K B ads (v :: vs) (w :: ws)
theorem pre_get {α : Type} {l l' : List α} {i : Nat} {a : α} (p : l <+: l') (h : l[i]? = some a) : l'[i]? = some a := by
  obtain ⟨r, rfl⟩ := p
  have := (List.getElem?_eq_some_iff.mp h).1
  rw [List.getElem?_append_left this]; exact h
theorem RepW.mono {K : Fg} {B B' : Hp} {ads ads' : List Addr} (e : Same B B') (p : ads <+: ads') {v : V} {w : W} (h : RepW K B ads v w) : RepW K B' ads' v w := by
  cases h with
  | cl h => exact .cl (h.mono e)
  | pt h => exact .pt (pre_get p h)
theorem RepWs.mono {K : Fg} {B B' : Hp} {ads ads' : List Addr} (e : Same B B') (p : ads <+: ads') {vs : List V} {ws : List W} (h : RepWs K B ads vs ws) : RepWs K B' ads' vs ws := by
  induction h with
  | nil => exact .nil
  | cons h _ ih => exact .cons (h.mono e p) ih
theorem RepWs.length {K : Fg} {B : Hp} {ads : List Addr} {vs : List V} {ws : List W} (h : RepWs K B ads vs ws) : vs.length = ws.length := by
  induction h with
  | nil => rfl
  | cons _ _ ih => simp [ih]
theorem RepWs.append {K : Fg} {B : Hp} {ads : List Addr} {vs us : List V} {ws xs : List W} (h : RepWs K B ads vs ws) (h' : RepWs K B ads us xs) : RepWs K B ads (vs ++ us) (ws ++ xs) := by
  induction h with
  | nil => exact h'
  | cons h _ ih => exact .cons h ih
theorem RepWs.get {K : Fg} {B : Hp} {ads : List Addr} {vs : List V} {ws : List W} (h : RepWs K B ads vs ws) : ∀ {i : Nat} {w : W}, ws[i]? = some w → ∃ v, vs[i]? = some v ∧ RepW K B ads v w := by
  induction h with
  | nil => intro i w e; simp at e
  | cons r _ ih =>
    intro i w e
    cases i with
    | zero => simp at e; subst e; exact ⟨_, rfl, r⟩
    | succ i =>
      obtain ⟨v, h1, h2⟩ := ih (i := i) (by simpa using e)
      exact ⟨v, by simpa using h1, h2⟩
theorem RepWs.set {K : Fg} {B : Hp} {ads : List Addr} {vs : List V} {ws : List W} {v : V} {w : W} (r : RepW K B ads v w) (h : RepWs K B ads vs ws) : ∀ (i : Nat), RepWs K B ads (vs.set i v) (ws.set i w) := by
  induction h with
  | nil => intro i; exact .nil
  | cons r' h' ih =>
    intro i
    cases i with
    | zero => exact .cons r h'
    | succ i => exact .cons r' (ih i)
theorem RepWs.eraseIdx {K : Fg} {B : Hp} {ads : List Addr} {vs : List V} {ws : List W} (h : RepWs K B ads vs ws) : ∀ (i : Nat), RepWs K B ads (vs.eraseIdx i) (ws.eraseIdx i) := by
  induction h with
  | nil => intro i; exact .nil
  | cons r' h' ih =>
    intro i
    cases i with
    | zero => exact h'
    | succ i => exact .cons r' (ih i)
theorem RepWs.dropLast {K : Fg} {B : Hp} {ads : List Addr} {vs : List V} {ws : List W} (h : RepWs K B ads vs ws) : RepWs K B ads vs.dropLast ws.dropLast := by
  induction h with
  | nil => exact .nil
  | cons r h' ih =>
    cases h' with
    | nil => exact .nil
    | cons q h'' => exact .cons r ih
theorem RepWs.take {K : Fg} {B : Hp} {ads : List Addr} {vs : List V} {ws : List W} (h : RepWs K B ads vs ws) : ∀ (n : Nat), RepWs K B ads (vs.take n) (ws.take n) := by
  induction h with
  | nil => intro n; simp; exact .nil
  | cons r' h' ih =>
    intro i
    cases i with
    | zero => simp; exact .nil
    | succ i => simp; exact .cons r' (ih i)
theorem RepWs.drop {K : Fg} {B : Hp} {ads : List Addr} {vs : List V} {ws : List W} (h : RepWs K B ads vs ws) : ∀ (n : Nat), RepWs K B ads (vs.drop n) (ws.drop n) := by
  induction h with
  | nil => intro n; simp; exact .nil
  | cons r' h' ih =>
    intro i
    cases i with
    | zero => exact .cons r' h'
    | succ i => simp; exact ih i
theorem RepWs.ofT {K : Fg} {B : Hp} {ads : List Addr} : ∀ {vs : List V} {ts : List T}, Reps K B vs ts → RepWs K B ads vs (ts.map W.cl)
  | _, _, .nil => .nil
  | _, _, .cons r h => .cons (.cl r) (RepWs.ofT h)
theorem RepWs.toT {K : Fg} {B : Hp} {ads : List Addr} : ∀ {ts : List T} {vs : List V}, RepWs K B ads vs (ts.map W.cl) → Reps K B vs ts
  | [], _, h => by cases h; exact .nil
  | t :: ts, _, h => by
    cases h with
    | cons r h' => cases r with | cl r => exact .cons r (RepWs.toT h')

def CellOk (K : Fg) (B H : Hp) (ads : List Addr) (a : Addr) : Cell → Prop
  | .lst ws => B a = none ∧ ∃ vs, H a = some (.lst vs) ∧ RepWs K B ads vs ws
  | .fz t => (∃ o, B a = some o) ∧ Rep K B (.ref a) t
  | .ins C ks ws => B a = none ∧ ∃ dx vs, H a = some (.ins C dx (ks.zip vs)) ∧ ks.length = vs.length ∧ RepWs K B ads vs ws
  | .dK ks ws => B a = none ∧ ∃ vs, H a = some (.dK (ks.zip vs)) ∧ ks.length = vs.length ∧ RepWs K B ads vs ws
  | .dT ks ws => B a = none ∧ ∃ vs, H a = some (.dT (ks.zip vs)) ∧ ks.length = vs.length ∧ RepWs K B ads vs ws
  | .dN ks ws => B a = none ∧ ∃ (vs : List V) (ep : Nat) (bs : List Addr), H a = some (NdO K.w a ep ks bs vs) ∧ ks.length = vs.length ∧ KAts B bs ks ∧ RepWs K B ads vs ws
/-- tuples never change: whose they are does not matter -/
def IsT (o : HO) : Prop := ∃ xs, o = .tup xs
structure Wok (K : Fg) (F B H : Hp) (ads : List Addr) (cs : Cs) : Prop where
  same : Same B H
  frm : Same F H
  dis : ∀ a o, F a = some o → B a = none ∨ IsT o
  len : ads.length = cs.length
  nd : ads.Nodup
  fr : ∀ a ∈ ads, F a = none
  cell : ∀ (i : Nat) (a : Addr) (c : Cell), ads[i]? = some a → cs[i]? = some c → CellOk K B H ads a c
/-- what a cell leans on is kept -/
theorem CellOk.mono {K : Fg} {B B' H H' : Hp} {ads ads' : List Addr} {a : Addr} {c : Cell} (e : Same B B') (p : ads <+: ads') (nb : B a = none → (∀ o, H a = some o → ¬ IsT o) → H a ≠ none → B' a = none) (hh : ∀ o, B a = none → H a = some o → H' a = some o) (h : CellOk K B H ads a c) : CellOk K B' H' ads' a c := by
  cases c with
  | lst ws => obtain ⟨n, vs, q, r⟩ := h; exact ⟨nb n (fun o z => by rw [q] at z; cases z; exact fun ⟨_, z⟩ => nomatch z) (by rw [q]; simp), vs, hh _ n q, r.mono e p⟩
  | fz t => obtain ⟨⟨o, q⟩, r⟩ := h; exact ⟨⟨o, e _ _ q⟩, Rep.mono e r⟩
  | ins C ks ws => obtain ⟨n, dx, vs, q, l, r⟩ := h; exact ⟨nb n (fun o z => by rw [q] at z; cases z; exact fun ⟨_, z⟩ => nomatch z) (by rw [q]; simp), dx, vs, hh _ n q, l, r.mono e p⟩
  | dK ks ws => obtain ⟨n, vs, q, l, r⟩ := h; exact ⟨nb n (fun o z => by rw [q] at z; cases z; exact fun ⟨_, z⟩ => nomatch z) (by rw [q]; simp), vs, hh _ n q, l, r.mono e p⟩
  | dT ks ws => obtain ⟨n, vs, q, l, r⟩ := h; exact ⟨nb n (fun o z => by rw [q] at z; cases z; exact fun ⟨_, z⟩ => nomatch z) (by rw [q]; simp), vs, hh _ n q, l, r.mono e p⟩
  | dN ks ws => obtain ⟨n, vs, ep, bs, q, l, k, r⟩ := h; exact ⟨nb n (fun o z => by rw [q] at z; cases z; exact fun ⟨_, z⟩ => nomatch z) (by rw [q]; simp), vs, ep, bs, hh _ n q, l, k.mono e, r.mono e p⟩

section
variable {K : Fg} {F B H B' H' : Hp} {ads : List Addr} {cs : Cs}
theorem upd_same' {p : Addr} {o : HO} (h : H p = none) : Same H (upd H p o) := fun a u e => by
  rw [upd_ne (ne_of_none e h)]; exact e
/-- the heap and the clean part grow -/
theorem Wok.grow (w : Wok K F B H ads cs) (e : Same B B') (s : Same B' H') (hh : Same H H') (nb : ∀ a o, B a = none → H a = some o → B' a = none ∨ IsT o) : Wok K F B' H' ads cs where
  same := s
  frm := w.frm.trans hh
  dis := fun a o q => (w.dis a o q).elim (fun z => nb a o z (w.frm a o q)) .inr
  len := w.len
  nd := w.nd
  fr := w.fr
  cell := fun i a c h1 h2 => (w.cell i a c h1 h2).mono e (List.prefix_refl _) (fun n nt ne => by
    cases q : H a with
    | none => exact absurd q ne
    | some o => exact (nb a o n q).elim id fun z => absurd z (nt o q)) (fun o _ q => hh a o q)
/-- a clean object is laid -/
theorem Wok.clean (w : Wok K F B H ads cs) {p : Addr} (o : HO) (hp : H p = none) : Wok K F (upd B p o) (upd H p o) ads cs := by
  have bp : B p = none := w.same.free hp
  refine w.grow (upd_same' bp) (fun a u q => ?_) (upd_same' hp) fun a u n h => .inl ?_
  · by_cases e : a = p
    · subst e; rw [upd_same] at q ⊢; exact q
    · rw [upd_ne e] at q ⊢; exact w.same a u q
  · have e : a ≠ p := fun e => by rw [e, hp] at h; cases h
    rw [upd_ne e]; exact n
/-- an object that nobody will ask for is laid -/
theorem Wok.any (w : Wok K F B H ads cs) {p : Addr} (o : HO) (hp : H p = none) : Wok K F B (upd H p o) ads cs :=
  w.grow (Same.refl _) (w.same.trans (upd_same' hp)) (upd_same' hp) fun a _ n _ => .inl n
theorem Wok.notin (w : Wok K F B H ads cs) {p : Addr} (hp : H p = none) : p ∉ ads := fun hm => by
  obtain ⟨i, hi, e⟩ := List.mem_iff_getElem.mp hm
  have e1 : ads[i]? = some p := by rw [List.getElem?_eq_getElem hi, e]
  have hc : i < cs.length := by rw [← w.len]; exact hi
  have q := w.cell i p cs[i] e1 (List.getElem?_eq_getElem hc)
  cases hcc : cs[i] with
  | fz t =>
    rw [hcc] at q
    obtain ⟨⟨o, q⟩, _⟩ := q
    rw [w.same.free hp] at q; cases q
  | lst ws => rw [hcc] at q; obtain ⟨_, vs, e, _⟩ := q; rw [hp] at e; cases e
  | ins C ks ws => rw [hcc] at q; obtain ⟨_, dx, vs, e, _⟩ := q; rw [hp] at e; cases e
  | dK ks ws => rw [hcc] at q; obtain ⟨_, vs, e, _⟩ := q; rw [hp] at e; cases e
  | dT ks ws => rw [hcc] at q; obtain ⟨_, vs, e, _⟩ := q; rw [hp] at e; cases e
  | dN ks ws => rw [hcc] at q; obtain ⟨_, vs, _, _, e, _⟩ := q; rw [hp] at e; cases e
end
end G

/-! The tree layer, 2: what happens to worlds; freezing; outcomes. -/
namespace G
open PySem L2

section
variable {K : Fg} {F B H B' H' : Hp} {ads : List Addr} {cs : Cs}
theorem ads_get (w : Wok K F B H ads cs) {i : Nat} {c : Cell} (h : cs[i]? = some c) : ∃ a, ads[i]? = some a ∧ a ∈ ads ∧ CellOk K B H ads a c := by
  have hi := (List.getElem?_eq_some_iff.mp h).1
  have hi' : i < ads.length := by rw [w.len]; exact hi
  exact ⟨ads[i], List.getElem?_eq_getElem hi', List.getElem_mem hi', w.cell i _ c (List.getElem?_eq_getElem hi') h⟩
theorem ads_ne (w : Wok K F B H ads cs) {i j : Nat} {a b : Addr} (h : ads[i]? = some a) (h' : ads[j]? = some b) (n : i ≠ j) : a ≠ b := by
  intro e
  subst e
  exact n (nd_ix w.nd h h')
theorem ref_rep {K : Fg} {B : Hp} {a b : Addr} {t : T} (h : B a = none) : True := trivial
/-- a new owned object -/
theorem Wok.push (w : Wok K F B H ads cs) {p : Addr} {o : HO} {c : Cell} (hp : H p = none) (hc : CellOk K B (upd H p o) (ads ++ [p]) p c) : Wok K F B (upd H p o) (ads ++ [p]) (cs ++ [c]) where
  same := w.same.trans (upd_same' hp)
  frm := w.frm.trans (upd_same' hp)
  dis := w.dis
  len := by simp [w.len]
  nd := by
    rw [List.nodup_append]
    refine ⟨w.nd, by simp, fun a ha b hb => ?_⟩
    simp at hb; subst hb
    rintro rfl
    exact w.notin hp ha
  fr := fun a ha => by
    rcases List.mem_append.mp ha with h | h
    · exact w.fr a h
    · simp at h; subst h; exact w.frm.free hp
  cell := fun i a c' h1 h2 => by
    by_cases hi : i < ads.length
    · rw [List.getElem?_append_left hi] at h1
      rw [List.getElem?_append_left (by rw [← w.len]; exact hi)] at h2
      exact (w.cell i a c' h1 h2).mono (Same.refl _) (List.prefix_append _ _) (fun n _ _ => n) fun o _ q => upd_same' hp a o q
    · have e : i = ads.length := by
        have := (List.getElem?_eq_some_iff.mp h1).1
        simp at this; omega
      subst e
      rw [List.getElem?_append_right (Nat.le_refl _)] at h1
      rw [List.getElem?_append_right (by rw [w.len]; exact Nat.le_refl _)] at h2
      simp at h1; subst h1
      simp [w.len] at h2; subst h2
      exact hc
/-- an owned object is rewritten -/
theorem Wok.put (w : Wok K F B H ads cs) {i : Nat} {a : Addr} {o : HO} {c : Cell} (ha : ads[i]? = some a) (hb : B a = none) (hc : CellOk K B (upd H a o) ads a c) : Wok K F B (upd H a o) ads (cs.set i c) where
  same := fun b u q => by
    have : b ≠ a := fun e => by rw [e, hb] at q; cases q
    rw [upd_ne this]; exact w.same b u q
  frm := fun b u q => by
    have : b ≠ a := fun e => by
      rw [e, w.fr a (List.mem_of_getElem? ha)] at q; cases q
    rw [upd_ne this]; exact w.frm b u q
  dis := w.dis
  len := by simp [w.len]
  nd := w.nd
  fr := w.fr
  cell := fun j b c' h1 h2 => by
    by_cases e : i = j
    · subst e
      have hi : i < cs.length := by rw [← w.len]; exact (List.getElem?_eq_some_iff.mp ha).1
      rw [List.getElem?_set_self hi] at h2
      cases h2
      rw [ha] at h1; cases h1
      exact hc
    · rw [List.getElem?_set_ne e] at h2
      have ne : b ≠ a := ads_ne w h1 ha (Ne.symm e)
      exact (w.cell j b c' h1 h2).mono (Same.refl _) (List.prefix_refl _) (fun n _ _ => n) fun o _ q => by rw [upd_ne ne]; exact q
/-- an owned object is handed over to the clean part -/
theorem Wok.freeze (w : Wok K F B H ads cs) {i : Nat} {a : Addr} {o : HO} {t : T} (ha : ads[i]? = some a) (hb : B a = none) (ho : H a = some o) (ht : Rep K (upd B a o) (.ref a) t) : Wok K F (upd B a o) H ads (cs.set i (.fz t)) where
  same := fun b u q => by
    by_cases e : b = a
    · subst e; rw [upd_same] at q; cases q; exact ho
    · rw [upd_ne e] at q; exact w.same b u q
  frm := w.frm
  dis := fun b u q => by
    have : b ≠ a := fun e => by
      rw [e, w.fr a (List.mem_of_getElem? ha)] at q; cases q
    rw [upd_ne this]; exact w.dis b u q
  len := by simp [w.len]
  nd := w.nd
  fr := w.fr
  cell := fun j b c' h1 h2 => by
    by_cases e : i = j
    · subst e
      have hi : i < cs.length := by rw [← w.len]; exact (List.getElem?_eq_some_iff.mp ha).1
      rw [List.getElem?_set_self hi] at h2
      cases h2
      rw [ha] at h1; cases h1
      exact ⟨⟨o, upd_same⟩, ht⟩
    · rw [List.getElem?_set_ne e] at h2
      have ne : b ≠ a := ads_ne w h1 ha (Ne.symm e)
      exact (w.cell j b c' h1 h2).mono (upd_same' hb) (List.prefix_refl _) (fun n _ _ => by rw [upd_ne ne]; exact n) fun o _ q => q
end

/-! ### freezing -/
def frzs (f : W → Cs → Option (T × Cs)) : List W → Cs → Option (List T × Cs)
  | [], cs => some ([], cs)
  | w :: ws, cs => match f w cs with
    | none => none
    | some (t, cs1) => match frzs f ws cs1 with
      | none => none
      | some (ts, cs2) => some (t :: ts, cs2)
def frzC (f : List W → Cs → Option (List T × Cs)) (i : Nat) (cs : Cs) : Option (T × Cs) :=
  match cs[i]? with
  | some (.fz t) => some (t, cs)
  | some (.lst ws) => match f ws cs with
    | none => none
    | some (ts, cs1) => match cs1[i]? with
      | some (.lst _) => some (.lst ts, cs1.set i (.fz (.lst ts)))
      | _ => none
  | some (.ins C ks ws) => match f ws cs with
    | none => none
    | some (ts, cs1) => match cs1[i]? with
      | some (.ins _ _ _) => some (.ins C ks ts, cs1.set i (.fz (.ins C ks ts)))
      | _ => none
  | some (.dK ks ws) => match f ws cs with
    | none => none
    | some (ts, cs1) => match cs1[i]? with
      | some (.dK _ _) => some (.dK ks ts, cs1.set i (.fz (.dK ks ts)))
      | _ => none
  | some (.dT ks ws) => match f ws cs with
    | none => none
    | some (ts, cs1) => match cs1[i]? with
      | some (.dT _ _) => some (.dT ks ts, cs1.set i (.fz (.dT ks ts)))
      | _ => none
  | some (.dN ks ws) => match f ws cs with
    | none => none
    | some (ts, cs1) => match cs1[i]? with
      | some (.dN _ _) => some (.dN ks ts, cs1.set i (.fz (.dN ks ts)))
      | _ => none
  | none => none
def frz : Nat → W → Cs → Option (T × Cs)
  | _, .cl t, cs => some (t, cs)
  | 0, .pt _, _ => none
  | n + 1, .pt i, cs => frzC (frzs (frz n)) i cs

/-- cells only turn to frozen ones -/
def Only (cs cs' : Cs) : Prop := ∀ (j : Nat), cs'[j]? = cs[j]? ∨ ∃ t, cs'[j]? = some (Cell.fz t)
theorem Only.refl (cs : Cs) : Only cs cs := fun _ => .inl rfl
theorem Only.trans {a b c : Cs} (h : Only a b) (h' : Only b c) : Only a c := fun j => by
  rcases h' j with e | e
  · rcases h j with e2 | e2
    · exact .inl (e.trans e2)
    · exact .inr (by rw [e]; exact e2)
  · exact .inr e
theorem Only.set {cs : Cs} {i : Nat} {t : T} (h : i < cs.length) : Only cs (cs.set i (.fz t)) := fun j => by
  by_cases e : i = j
  · subst e; exact .inr ⟨t, List.getElem?_set_self h⟩
  · exact .inl (List.getElem?_set_ne e)

def FrzOk (K : Fg) (f : W → Cs → Option (T × Cs)) : Prop := ∀ (F B H : Hp) (ads : List Addr) (cs cs' : Cs) (v : V) (w : W) (t : T), Wok K F B H ads cs → RepW K B ads v w → f w cs = some (t, cs') →
  ∃ B', Same B B' ∧ Wok K F B' H ads cs' ∧ Rep K B' v t ∧ Only cs cs'
theorem frzs_ok {K : Fg} {f : W → Cs → Option (T × Cs)} (hf : FrzOk K f) {F H : Hp} {ads : List Addr} : ∀ {ws : List W} {B : Hp} {cs cs' : Cs} {vs : List V} {ts : List T}, Wok K F B H ads cs → RepWs K B ads vs ws → frzs f ws cs = some (ts, cs') →
    ∃ B', Same B B' ∧ Wok K F B' H ads cs' ∧ Reps K B' vs ts ∧ Only cs cs' := by
  intro ws
  induction ws with
  | nil =>
    intro B cs cs' vs ts w r h
    cases r
    cases h
    exact ⟨B, Same.refl _, w, .nil, Only.refl _⟩
  | cons x xs ih =>
    intro B cs cs' vs ts w r h
    cases r with
    | cons r1 r2 =>
      unfold frzs at h
      split at h
      · cases h
      · rename_i t cs1 h1
        split at h
        · cases h
        · rename_i ts2 cs2 h2
          cases h
          obtain ⟨B1, s1, w1, q1, o1⟩ := hf _ _ _ _ _ _ _ _ _ w r1 h1
          obtain ⟨B2, s2, w2, q2, o2⟩ := ih w1 (r2.mono s1 (List.prefix_refl _)) h2
          exact ⟨B2, s1.trans s2, w2, .cons (q1.mono s2) q2, o1.trans o2⟩
theorem frzC_ok {K : Fg} {f : W → Cs → Option (T × Cs)} (hf : FrzOk K f) {F H B : Hp} {ads : List Addr} {cs cs' : Cs} {i : Nat} {a : Addr} {t : T} (w : Wok K F B H ads cs) (ha : ads[i]? = some a) (h : frzC (frzs f) i cs = some (t, cs')) :
    ∃ B', Same B B' ∧ Wok K F B' H ads cs' ∧ Rep K B' (.ref a) t ∧ Only cs cs' := by
  unfold frzC at h
  split at h
  · rename_i t' e
    cases h
    obtain ⟨_, r⟩ := w.cell i a _ ha e
    exact ⟨B, Same.refl _, w, r, Only.refl _⟩
  · rename_i ws e
    obtain ⟨hb, vs, hv, r⟩ := w.cell i a _ ha e
    split at h
    · cases h
    · rename_i ts cs1 h1
      split at h
      · rename_i ws' e'
        cases h
        obtain ⟨B1, s1, w1, q1, o1⟩ := frzs_ok hf w r h1
        obtain ⟨hb1, vs1, hv1, r1⟩ := w1.cell i a _ ha e'
        have rr : Rep K (upd B1 a (.lst vs)) (.ref a) (.lst ts) := .lst upd_same (q1.mono (upd_same' hb1))
        exact ⟨_, s1.trans (upd_same' hb1), w1.freeze ha hb1 hv rr, rr, o1.trans (Only.set (List.getElem?_eq_some_iff.mp e').1)⟩
      · cases h
  · rename_i C ks ws e
    obtain ⟨hb, dx, vs, hv, l, r⟩ := w.cell i a _ ha e
    split at h
    · cases h
    · rename_i ts cs1 h1
      split at h
      · rename_i C' ks' ws' e'
        cases h
        obtain ⟨B1, s1, w1, q1, o1⟩ := frzs_ok hf w r h1
        obtain ⟨hb1, _, vs1, hv1, r1⟩ := w1.cell i a _ ha e'
        have rr : Rep K (upd B1 a (.ins C dx (ks.zip vs))) (.ref a) (.ins C ks ts) := .ins upd_same l (q1.mono (upd_same' hb1))
        exact ⟨_, s1.trans (upd_same' hb1), w1.freeze ha hb1 hv rr, rr, o1.trans (Only.set (List.getElem?_eq_some_iff.mp e').1)⟩
      · cases h
  · rename_i ks ws e
    obtain ⟨hb, vs, hv, l, r⟩ := w.cell i a _ ha e
    split at h
    · cases h
    · rename_i ts cs1 h1
      split at h
      · rename_i ks' ws' e'
        cases h
        obtain ⟨B1, s1, w1, q1, o1⟩ := frzs_ok hf w r h1
        obtain ⟨hb1, vs1, hv1, r1⟩ := w1.cell i a _ ha e'
        have rr : Rep K (upd B1 a (.dK (ks.zip vs))) (.ref a) (.dK ks ts) := .dK upd_same l (q1.mono (upd_same' hb1))
        exact ⟨_, s1.trans (upd_same' hb1), w1.freeze ha hb1 hv rr, rr, o1.trans (Only.set (List.getElem?_eq_some_iff.mp e').1)⟩
      · cases h
  · rename_i ks ws e
    obtain ⟨hb, vs, hv, l, r⟩ := w.cell i a _ ha e
    split at h
    · cases h
    · rename_i ts cs1 h1
      split at h
      · rename_i ks' ws' e'
        cases h
        obtain ⟨B1, s1, w1, q1, o1⟩ := frzs_ok hf w r h1
        obtain ⟨hb1, vs1, hv1, r1⟩ := w1.cell i a _ ha e'
        have rr : Rep K (upd B1 a (.dT (ks.zip vs))) (.ref a) (.dT ks ts) := .dT upd_same l (q1.mono (upd_same' hb1))
        exact ⟨_, s1.trans (upd_same' hb1), w1.freeze ha hb1 hv rr, rr, o1.trans (Only.set (List.getElem?_eq_some_iff.mp e').1)⟩
      · cases h
  · rename_i ks ws e
    obtain ⟨hb, vs, ep, bs, hv, l, kk, r⟩ := w.cell i a _ ha e
    split at h
    · cases h
    · rename_i ts cs1 h1
      split at h
      · rename_i ks' ws' e'
        cases h
        obtain ⟨B1, s1, w1, q1, o1⟩ := frzs_ok hf w r h1
        obtain ⟨hb1, vs1, ep1, bs1, hv1, r1⟩ := w1.cell i a _ ha e'
        have rr : Rep K (upd B1 a (NdO K.w a ep ks bs vs)) (.ref a) (.dN ks ts) := .dN upd_same l ((kk.mono s1).mono (upd_same' hb1)) (q1.mono (upd_same' hb1))
        exact ⟨_, s1.trans (upd_same' hb1), w1.freeze ha hb1 hv rr, rr, o1.trans (Only.set (List.getElem?_eq_some_iff.mp e').1)⟩
      · cases h
  · cases h
theorem frz_ok {K : Fg} : ∀ (n : Nat), FrzOk K (frz n)
  | 0 => by
    intro F B H ads cs cs' v w t
    intro wk r h
    cases w with
    | cl t' => cases h; cases r with | cl r => exact ⟨B, Same.refl _, wk, r, Only.refl _⟩
    | pt i => cases h
  | n + 1 => by
    intro F B H ads cs cs' v w t
    intro wk r h
    cases w with
    | cl t' => cases h; cases r with | cl r => exact ⟨B, Same.refl _, wk, r, Only.refl _⟩
    | pt i => cases r with | pt ha => exact frzC_ok (frz_ok n) wk ha h

/-! ### outcomes -/
inductive Ex where
  | own (C : Addr) (ks : List Str) (ts : List T)
inductive R (α : Type) where
  | no | ok (a : α) (cs : Cs) | ex (e : Ex) (cs : Cs)
def R.bind {α β : Type} (r : R α) (k : α → Cs → R β) : R β := match r with
  | .no => .no
  | .ok a cs => k a cs
  | .ex e cs => .ex e cs
def wpR {α : Type} (r : R α) (Φ : α → Cs → Prop) (Ψ : Ex → Cs → Prop) : Prop := match r with
  | .no => False
  | .ok a cs => Φ a cs
  | .ex e cs => Ψ e cs
theorem wpR_bind {α β : Type} {r : R α} {k : α → Cs → R β} {Φ : β → Cs → Prop} {Ψ : Ex → Cs → Prop} (h : wpR (r.bind k) Φ Ψ) : wpR r (fun a cs => wpR (k a cs) Φ Ψ) Ψ := by
  cases r <;> exact h
theorem wpR_mono {α : Type} {r : R α} {Φ Φ' : α → Cs → Prop} {Ψ Ψ' : Ex → Cs → Prop} (h : wpR r Φ Ψ) (hf : ∀ a cs, Φ a cs → Φ' a cs) (hg : ∀ e cs, Ψ e cs → Ψ' e cs) : wpR r Φ' Ψ' := by
  cases r with
  | no => exact h
  | ok a cs => exact hf _ _ h
  | ex e cs => exact hg _ _ h
/-- for readers: an outcome that is a value -/
theorem R.bind_ok {α β : Type} {a : α} {cs : Cs} {k : α → Cs → R β} : (R.ok a cs).bind k = k a cs := rfl
theorem R.bind_ex {α β : Type} {e : Ex} {cs : Cs} {k : α → Cs → R β} : (R.ex e cs).bind k = .ex e cs := rfl
theorem R.bind_no {α β : Type} {k : α → Cs → R β} : (R.no : R α).bind k = .no := rfl
def ofO {α : Type} (o : Option α) (cs : Cs) : R α := match o with
  | some a => .ok a cs
  | none => .no

/-- an exception as it stands -/
def RepE (K : Fg) (B H : Hp) (c : Value) (d : Option Addr) : Ex → Prop
  | .own C ks ts => c = .ref C ∧ ((ks = [] ∧ ts = [] ∧ d = none) ∨ ∃ dd vs, d = some dd ∧ H dd = some (.xd (ks.zip vs)) ∧ ks.length = vs.length ∧ Reps K B vs ts)

def PostV (K : Fg) (F B : Hp) (ads : List Addr) (Q : VK) : W → Cs → Prop := fun w cs => ∀ B' H' ads' v, Same B B' → ads <+: ads' → Wok K F B' H' ads' cs → RepW K B' ads' v w → Q v H'
def PostE (K : Fg) (F B : Hp) (ads : List Addr) (E : XK) : Ex → Cs → Prop := fun e cs => ∀ B' H' ads' c d, Same B B' → ads <+: ads' → Wok K F B' H' ads' cs → RepE K B' H' c d e → E c d H'
theorem PostE.mono {K : Fg} {F B B' : Hp} {ads ads' : List Addr} {E : XK} (s : Same B B') (p : ads <+: ads') (e : Ex) (cs : Cs) (h : PostE K F B ads E e cs) : PostE K F B' ads' E e cs :=
  fun B2 H2 a2 c d s2 p2 w2 r2 => h B2 H2 a2 c d (s.trans s2) (p.trans p2) w2 r2
theorem PostV.mono {K : Fg} {F B B' : Hp} {ads ads' : List Addr} {Q : VK} (s : Same B B') (p : ads <+: ads') (e : W) (cs : Cs) (h : PostV K F B ads Q e cs) : PostV K F B' ads' Q e cs :=
  fun B2 H2 a2 v s2 p2 w2 r2 => h B2 H2 a2 v (s.trans s2) (p.trans p2) w2 r2

/-! ### locals -/
structure OkL (K : Fg) (B : Hp) (ads : List Addr) (σ : L2.St) (ρ : Loc) : Prop where
  len : σ.length = ρ.length
  at_ : ∀ (i : Nat) (w : W), ρ[i]? = some (some w) → ∃ v, σ[i]? = some (some v) ∧ RepW K B ads v w
theorem OkL.mono {K : Fg} {B B' : Hp} {ads ads' : List Addr} {σ : L2.St} {ρ : Loc} (s : Same B B') (p : ads <+: ads') (h : OkL K B ads σ ρ) : OkL K B' ads' σ ρ :=
  ⟨h.len, fun i w e => by obtain ⟨v, q, r⟩ := h.at_ i w e; exact ⟨v, q, r.mono s p⟩⟩
theorem OkL.set {K : Fg} {B : Hp} {ads : List Addr} {σ : L2.St} {ρ : Loc} {v : V} {w : W} (h : OkL K B ads σ ρ) (r : RepW K B ads v w) (i : Nat) : OkL K B ads (σ.set i (some v)) (ρ.set i (some w)) := by
  refine ⟨by simp [h.len], fun j u e => ?_⟩
  by_cases hij : i = j
  · subst hij
    have hi : i < ρ.length := by
      have := (List.getElem?_eq_some_iff.mp e).1; simpa using this
    rw [List.getElem?_set_self hi] at e
    cases e
    exact ⟨v, List.getElem?_set_self (by rw [h.len]; exact hi), r⟩
  · rw [List.getElem?_set_ne hij] at e
    obtain ⟨x, q, r'⟩ := h.at_ j u e
    exact ⟨x, by rw [List.getElem?_set_ne hij]; exact q, r'⟩
theorem OkL.unset {K : Fg} {B : Hp} {ads : List Addr} {σ : L2.St} {ρ : Loc} (h : OkL K B ads σ ρ) (i : Nat) : OkL K B ads (σ.set i none) (ρ.set i none) := by
  refine ⟨by simp [h.len], fun j u e => ?_⟩
  by_cases hij : i = j
  · subst hij
    by_cases hi : i < ρ.length
    · rw [List.getElem?_set_self hi] at e; cases e
    · rw [List.getElem?_eq_none (by simpa using hi)] at e; cases e
  · rw [List.getElem?_set_ne hij] at e
    obtain ⟨x, q, r'⟩ := h.at_ j u e
    exact ⟨x, by rw [List.getElem?_set_ne hij]; exact q, r'⟩
def wipeL (ρ : Loc) : List Nat → Loc
  | [] => ρ
  | v :: vs => (wipeL ρ vs).set v none
theorem OkL.wipe {K : Fg} {B : Hp} {ads : List Addr} {σ : L2.St} {ρ : Loc} (h : OkL K B ads σ ρ) : ∀ vs : List Nat, OkL K B ads (wipe σ vs) (wipeL ρ vs)
  | [] => h
  | v :: vs => (OkL.wipe h vs).unset v
end G

/-! The tree layer, 3: judgements; names, constants, operators. -/
namespace G
open PySem L2

abbrev ME := Loc → Cs → R W
abbrev MB := Loc → Cs → R Bool
abbrev MA := Loc → Cs → R (List W)
abbrev MI := Loc → Cs → R (List T)
abbrev MG := W → Loc → Cs → R Loc
inductive Fl where
  | nx (ρ : Loc) | rt (w : W) | bk (ρ : Loc) | ct (ρ : Loc)
abbrev MS := Loc → Cs → R Fl

def PostB (K : Fg) (F B : Hp) (ads : List Addr) (Q : Bool → Hp → Prop) : Bool → Cs → Prop := fun b cs => ∀ B' H' ads', Same B B' → ads <+: ads' → Wok K F B' H' ads' cs → Q b H'
def PostA (K : Fg) (F B : Hp) (ads : List Addr) (Q : List V → Hp → Prop) : List W → Cs → Prop := fun ws cs => ∀ B' H' ads' vs, Same B B' → ads <+: ads' → Wok K F B' H' ads' cs → RepWs K B' ads' vs ws → Q vs H'
/-- what a walk gives at turn i -/
def YT (K : Fg) (B : Hp) (ts : List T) : Nat → Hp → V → Hp → Prop := fun i H x H' => ∀ F B1 ads cs, Same B B1 → Wok K F B1 H ads cs → ∃ t B2, ts[i]? = some t ∧ Same B1 B2 ∧ Wok K F B2 H' ads cs ∧ Rep K B2 x t
def PostI (K : Fg) (F B : Hp) (ads : List Addr) (Q : It → Hp → Prop) : List T → Cs → Prop := fun ts cs => ∀ B' H' ads' J, Same B B' → ads <+: ads' → Wok K F B' H' ads' cs → Walk J ts.length (fun H => Same B' H) (YT K B' ts) → Q J H'
def PostL (K : Fg) (F B : Hp) (ads : List Addr) (Q : L2.St → Hp → Prop) : Loc → Cs → Prop := fun ρ cs => ∀ B' H' ads' σ', Same B B' → ads <+: ads' → Wok K F B' H' ads' cs → OkL K B' ads' σ' ρ → Q σ' H'
def PostS (K : Fg) (F B : Hp) (ads : List Addr) (D : Ends) : Fl → Cs → Prop := fun fl cs => ∀ B' H' ads', Same B B' → ads <+: ads' → Wok K F B' H' ads' cs → match fl with
  | .nx ρ => ∀ σ', OkL K B' ads' σ' ρ → D.nx σ' H'
  | .bk ρ => ∀ σ', OkL K B' ads' σ' ρ → D.bk σ' H'
  | .ct ρ => ∀ σ', OkL K B' ads' σ' ρ → D.ct σ' H'
  | .rt w => ∀ v, RepW K B' ads' v w → D.rt v H'

def DenE (K : Fg) (E : XK) (te : TE) (m : ME) : Prop := ∀ F B H ads cs σ ρ Q, Wok K F B H ads cs → OkL K B ads σ ρ → wpR (m ρ cs) (PostV K F B ads Q) (PostE K F B ads E) → te σ H Q
def DenT (K : Fg) (E : XK) (te : TT) (m : MB) : Prop := ∀ F B H ads cs σ ρ Q, Wok K F B H ads cs → OkL K B ads σ ρ → wpR (m ρ cs) (PostB K F B ads Q) (PostE K F B ads E) → te σ H Q
def DenA (K : Fg) (E : XK) (te : TA) (m : MA) : Prop := ∀ F B H ads cs σ ρ Q, Wok K F B H ads cs → OkL K B ads σ ρ → wpR (m ρ cs) (PostA K F B ads Q) (PostE K F B ads E) → te σ H Q
def DenI (K : Fg) (E : XK) (te : TI) (m : MI) : Prop := ∀ F B H ads cs σ ρ Q, Wok K F B H ads cs → OkL K B ads σ ρ → wpR (m ρ cs) (PostI K F B ads Q) (PostE K F B ads E) → te σ H Q
def DenG (K : Fg) (E : XK) (te : TG) (m : MG) : Prop := ∀ F B H ads cs σ ρ v w Q, Wok K F B H ads cs → OkL K B ads σ ρ → RepW K B ads v w → wpR (m w ρ cs) (PostL K F B ads Q) (PostE K F B ads E) → te v σ H Q
def DenS (K : Fg) (E : XK) (te : TS) (m : MS) : Prop := ∀ F B H ads cs σ ρ D, Wok K F B H ads cs → OkL K B ads σ ρ → wpR (m ρ cs) (PostS K F B ads D) (PostE K F B ads E) → te D σ H
/-- by values -/
def Den2 (K : Fg) (r : R2) (f : W → W → Cs → R W) : Prop := ∀ (E : XK) F B H ads cs x y v u Q, Wok K F B H ads cs → RepW K B ads x v → RepW K B ads y u → wpR (f v u cs) (PostV K F B ads Q) (PostE K F B ads E) → r x y H Q
def Den1 (K : Fg) (r : V → Hp → VK → Prop) (f : W → Cs → R W) : Prop := ∀ (E : XK) F B H ads cs x v Q, Wok K F B H ads cs → RepW K B ads x v → wpR (f v cs) (PostV K F B ads Q) (PostE K F B ads E) → r x H Q
def DenL (K : Fg) (r : List V → Hp → VK → Prop) (f : List W → Cs → R W) : Prop := ∀ (E : XK) F B H ads cs xs vs Q, Wok K F B H ads cs → RepWs K B ads xs vs → wpR (f vs cs) (PostV K F B ads Q) (PostE K F B ads E) → r xs H Q

/-- the written part and the world of a place -/
abbrev fx (X : Cx) : Fg := ⟨X.K, X.w⟩
structure XE (X : Cx) (E : XK) (e : Expr) (te : TE) (m : ME) : Prop where
  pe : PE X e te
  den : DenE (fx X) E te m
structure XT (X : Cx) (E : XK) (e : Expr) (te : TT) (m : MB) : Prop where
  pt : PT X e te
  den : DenT (fx X) E te m
structure XW (X : Cx) (E : XK) (e : Expr) (te : TT) (m : MB) : Prop where
  pw : PW X e te
  den : DenT (fx X) E te m
structure XA (X : Cx) (E : XK) (es : List Expr) (te : TA) (m : MA) : Prop where
  pa : PA X es te
  den : DenA (fx X) E te m
structure XI (X : Cx) (E : XK) (tg e : Expr) (te : TI) (m : MI) : Prop where
  pi : PI X tg e te
  den : DenI (fx X) E te m
structure XG (X : Cx) (E : XK) (tg : Expr) (te : TG) (m : MG) : Prop where
  pg : PG X tg te
  den : DenG (fx X) E te m
structure XS (X : Cx) (E : XK) (st : Stmt) (te : TS) (m : MS) : Prop where
  ps : PS X st te
  den : DenS (fx X) E te m
structure XSs (X : Cx) (E : XK) (st : List Stmt) (te : TS) (m : MS) : Prop where
  ps : PSs X st te
  den : DenS (fx X) E te m
structure XO2 (X : Cx) (f : Value → Value → Sem Value) (r : R2) (g : W → W → Cs → R W) : Prop where
  op : OpR X f r
  den : Den2 (fx X) r g

/-! ### small facts -/
section
variable {K : Fg} {F B H : Hp} {ads : List Addr} {cs : Cs} {Q : VK} {E : XK}
theorem PostV.now (w : Wok K F B H ads cs) {x : W} {v : V} (r : RepW K B ads v x) (h : PostV K F B ads Q x cs) : Q v H := h B H ads v (Same.refl _) (List.prefix_refl _) w r
theorem PostV.cl (w : Wok K F B H ads cs) {t : T} {v : V} (r : Rep K B v t) (h : PostV K F B ads Q (.cl t) cs) : Q v H := PostV.now w (.cl r) h
theorem rw_int {v : V} {i : Int} (h : RepW K B ads v (.cl (.int i))) : v = .int i := by cases h with | cl h => cases h; rfl
theorem rw_bl {v : V} {i : Bool} (h : RepW K B ads v (.cl (.bl i))) : v = .bl i := by cases h with | cl h => cases h; rfl
theorem rw_str {v : V} {i : Str} (h : RepW K B ads v (.cl (.str i))) : v = .str i := by cases h with | cl h => cases h; rfl
theorem rw_non {v : V} (h : RepW K B ads v (.cl .non)) : v = .non := by cases h with | cl h => cases h; rfl
end

/-! ### names, constants -/
def mVar (i : Nat) : ME := fun ρ cs => match ρ[i]? with
  | some (some w) => .ok w cs
  | _ => .no
def mC (t : T) : ME := fun _ cs => .ok (.cl t) cs
section
variable {X : Cx} {E : XK}
theorem den_var {K : Fg} {i : Nat} : DenE K E (tVar i) (mVar i) := fun F B H ads cs σ ρ Q w l h => by
  unfold mVar at h
  split at h
  · rename_i x e
    obtain ⟨v, q, r⟩ := l.at_ i x e
    exact ⟨v, q, PostV.now w r h⟩
  · exact h.elim
theorem den_c {K : Fg} {v : V} {t : T} (r : ∀ B, Rep K B v t) : DenE K E (tC v) (mC t) := fun F B H ads cs σ ρ Q w l h => PostV.cl w (r B) h
theorem xv (i : Nat) {x : Str} {pos : Pos} (hN : X.N[i]? = some x := by rfl) (hv : Vis X.env.scope x := by first | exact Or.inl rfl | exact Or.inr (Or.inl rfl) | exact Or.inr (Or.inr rfl)) (hd : (x == ("__debug__" : Str)) = false := by decide)
    (hcd : (x == ("__classdict__" : Str)) = false := by decide) : XE X E (.Name x pos) (tVar i) (mVar i) := ⟨pe_var hN hv hd hcd, den_var⟩
theorem x_int {i j pos} : XE X E (.Constant (.int i) j pos) (tC (.int i)) (mC (.int i)) := ⟨pe_int, den_c fun _ => .int _⟩
theorem x_bl {i j pos} : XE X E (.Constant (.bool i) j pos) (tC (.bl i)) (mC (.bl i)) := ⟨pe_bl, den_c fun _ => .bl _⟩
theorem x_non {j pos} : XE X E (.Constant .none j pos) (tC .non) (mC .non) := ⟨pe_non, den_c fun _ => .non⟩
theorem x_str {x j pos} : XE X E (.Constant (.str x) j pos) (tC (.str x)) (mC (.str x)) := ⟨pe_str, den_c fun _ => .str _⟩
/-- a class of the module, as a value -/
theorem x_glob {x : Str} {a : Addr} {pos : Pos} (hg : Gl X x) (hm : X.mg x = some (.ref a)) (hd : (x == ("__debug__" : Str)) = false := by decide) : XE X E (.Name x pos) (tC (.ref a)) (mC (.rf a)) := ⟨pe_glob hg hm rfl hd, den_c fun _ => .rf _⟩
/-- a built-in class, as a value -/
theorem x_bty {x : Str} {n : String} {pos : Pos} (hg : Gl X x) (hm : X.mg x = none) (hv : bootBuiltins x = some (.type n)) (hn : x ≠ "__name__" := by decide) (hd : (x == ("__debug__" : Str)) = false := by decide) : XE X E (.Name x pos) (tC (.ty n)) (mC (.ty n)) :=
  ⟨pe_bltn (v := .ty n) hg hm hv rfl hn hd, den_c fun _ => .ty _⟩
end

/-! ### argument lists -/
def mNil : MA := fun _ cs => .ok [] cs
def mCons (a : ME) (b : MA) : MA := fun ρ cs => (a ρ cs).bind fun x cs1 => (b ρ cs1).bind fun xs cs2 => .ok (x :: xs) cs2
section
variable {X : Cx} {E : XK} {e : Expr} {es : List Expr} {te : TE} {t : TA} {m : ME} {ma : MA}
theorem den_nil {K : Fg} : DenA K E tNil mNil := fun F B H ads cs σ ρ Q w l h => h B H ads [] (Same.refl _) (List.prefix_refl _) w .nil
theorem den_cons {K : Fg} (da : DenE K E te m) (db : DenA K E t ma) : DenA K E (tCons te t) (mCons m ma) := fun F B H ads cs σ ρ Q w l h => by
  refine da F B H ads cs σ ρ _ w l (wpR_mono (wpR_bind h) (fun x cs1 h1 B1 H1 ads1 v s1 p1 w1 r1 => ?_) fun _ _ h => h)
  refine db F B1 H1 ads1 cs1 σ ρ _ w1 (l.mono s1 p1) (wpR_mono (wpR_bind h1) (fun xs cs2 h2 B2 H2 ads2 vs s2 p2 w2 r2 => ?_) fun _ _ h => h.mono s1 p1)
  exact h2 B2 H2 ads2 (v :: vs) (s1.trans s2) (p1.trans p2) w2 (.cons (r1.mono s2 p2) r2)
theorem xa_nil : XA X E [] tNil mNil := ⟨pa_nil, den_nil⟩
theorem xa_cons (ha : XE X E e te m) (hr : XA X E es t ma) (hs : starEach (e :: es) X.env = (false, eval e X.env) :: starEach es X.env := by rfl) : XA X E (e :: es) (tCons te t) (mCons m ma) := ⟨pa_cons ha.pe hr.pa hs, den_cons ha.den hr.den⟩
end

/-! ### operators -/
def mOp (f : W → W → Cs → R W) (a b : ME) : ME := fun ρ cs => (a ρ cs).bind fun x cs1 => (b ρ cs1).bind fun y cs2 => f x y cs2
def mUn (f : W → Cs → R W) (a : ME) : ME := fun ρ cs => (a ρ cs).bind f
section
variable {X : Cx} {E : XK} {a b : Expr} {ta tb : TE} {ma mb : ME} {pos : Pos}
theorem den_op {K : Fg} {r : R2} {f : W → W → Cs → R W} (da : DenE K E ta ma) (db : DenE K E tb mb) (dr : Den2 K r f) : DenE K E (tOp r ta tb) (mOp f ma mb) := fun F B H ads cs σ ρ Q w l h => by
  refine da F B H ads cs σ ρ _ w l (wpR_mono (wpR_bind h) (fun x cs1 h1 B1 H1 ads1 v s1 p1 w1 r1 => ?_) fun _ _ h => h)
  refine db F B1 H1 ads1 cs1 σ ρ _ w1 (l.mono s1 p1) (wpR_mono (wpR_bind h1) (fun y cs2 h2 B2 H2 ads2 u s2 p2 w2 r2 => ?_) fun _ _ h => h.mono s1 p1)
  exact dr E F B2 H2 ads2 cs2 v u x y Q w2 (r1.mono s2 p2) r2 (wpR_mono h2 (fun _ _ h => h.mono (s1.trans s2) (p1.trans p2)) fun _ _ h => h.mono (s1.trans s2) (p1.trans p2))
theorem den_un {K : Fg} {r : V → Hp → VK → Prop} {f : W → Cs → R W} (da : DenE K E ta ma) (dr : Den1 K r f) : DenE K E (tUn r ta) (mUn f ma) := fun F B H ads cs σ ρ Q w l h => by
  refine da F B H ads cs σ ρ _ w l (wpR_mono (wpR_bind h) (fun x cs1 h1 B1 H1 ads1 v s1 p1 w1 r1 => ?_) fun _ _ h => h)
  exact dr E F B1 H1 ads1 cs1 v x Q w1 r1 (wpR_mono h1 (fun _ _ h => h.mono s1 p1) fun _ _ h => h.mono s1 p1)
theorem x_bin {op : Operator} {r : R2} {f : W → W → Cs → R W} (o : XO2 X (binaryOp op) r f) (ha : XE X E a ta ma) (hb : XE X E b tb mb) : XE X E (.BinOp a op b pos) (tOp r ta tb) (mOp f ma mb) := ⟨pe_op o.op ha.pe hb.pe, den_op ha.den hb.den o.den⟩
theorem x_cmp {op : CmpOp} {r : R2} {f : W → W → Cs → R W} (o : XO2 X (compareOp op) r f) (ha : XE X E a ta ma) (hb : XE X E b tb mb) (hm : behindInMarks op b = false := by first | exact nobehind _ (by decide) (by decide) | rfl) : XE X E (.Compare a [op] [b] pos) (tOp r ta tb) (mOp f ma mb) :=
  ⟨pe_cmpR o.op ha.pe hb.pe hm, den_op ha.den hb.den o.den⟩
/-- either rule -/
theorem OpR.or {f : Value → Value → Sem Value} {r r' : R2} (h : OpR X f r) (h' : OpR X f r') : OpR X f (fun x y H Q => r x y H Q ∨ r' x y H Q) := by
  intro pins s σ H x y v u Q I rx ry q
  rcases q with q | q
  · exact h pins s σ H x y v u Q I rx ry q
  · exact h' pins s σ H x y v u Q I rx ry q
end
/-- on ints: a guard and a value -/
def fI (C : Int → Int → Bool) (g : Int → Int → T) : W → W → Cs → R W := fun x y cs => match x, y with
  | .cl (.int i), .cl (.int j) => if C i j then .ok (.cl (g i j)) cs else .no
  | _, _ => .no
theorem den_I {K : Fg} {C : Int → Int → Bool} {P : Int → Int → Prop} {g : Int → Int → V} {g' : Int → Int → T} (hc : ∀ i j, C i j = true → P i j) (hg : ∀ i j B, Rep K B (g i j) (g' i j)) : Den2 K (rI P g) (fI C g') := fun E F B H ads cs x y v u Q w rx ry h => by
  unfold fI at h
  split at h
  · rename_i i j
    split at h
    · rename_i c
      cases rw_int rx
      cases rw_int ry
      exact ⟨i, j, rfl, rfl, hc i j c, PostV.cl w (hg i j B) h⟩
    · exact h.elim
  · exact h.elim
theorem den_I0 {K : Fg} {g : Int → Int → V} {g' : Int → Int → T} (hg : ∀ i j B, Rep K B (g i j) (g' i j)) : Den2 K (rI0 g) (fI (fun _ _ => true) g') := fun E F B H ads cs x y v u Q w rx ry h => by
  unfold fI at h
  split at h
  · rename_i i j
    cases rw_int rx
    cases rw_int ry
    exact ⟨i, j, rfl, rfl, PostV.cl w (hg i j B) h⟩
  · exact h.elim
section
variable {X : Cx}
/-- at most b either way; decided without a difference -/
def inB (b : Nat) : Int → Bool
  | .ofNat n => Nat.ble n b
  | .negSucc n => Nat.ble (n + 1) b
theorem inB_ok {b : Nat} {i : Int} (h : inB b i = true) : -(b : Int) ≤ i ∧ i ≤ (b : Int) := by
  cases i with
  | ofNat n => have := Nat.le_of_ble_eq_true h; rw [Int.ofNat_eq_natCast]; constructor <;> omega
  | negSucc n => have := Nat.le_of_ble_eq_true h; constructor <;> omega
theorem inB_of {b : Nat} {i : Int} (h : -(b : Int) ≤ i ∧ i ≤ (b : Int)) : inB b i = true := by
  cases i with
  | ofNat n => rw [Int.ofNat_eq_natCast] at h; exact Nat.ble_eq_true_of_le (by omega)
  | negSucc n => exact Nat.ble_eq_true_of_le (by omega)
def BMn : Nat := 18446744073709551615
def fSub := fI (fun _ _ => true) fun i j => .int (i - j)
def fMod := fI (fun _ j => decide (0 < j)) fun i j => .int (i % j)
def fDiv := fI (fun _ j => decide (0 < j) && inB 1073741823 j) fun i j => .int (i / j)
def fPow := fI (fun i j => decide (0 ≤ j) && (inB 1000000 j && inB BMn i)) fun i j => .int (i ^ j.toNat)
def fMulI := fI (fun i j => inB BMn i || inB BMn j) fun i j => .int (i * j)
def fLt := fI (fun _ _ => true) fun i j => .bl (decide (i < j))
def fLe := fI (fun _ _ => true) fun i j => .bl (decide (i ≤ j))
def fGt := fI (fun _ _ => true) fun i j => .bl (decide (j < i))
def fGe := fI (fun _ _ => true) fun i j => .bl (decide (j ≤ i))
theorem o_sub : XO2 X (binaryOp .Sub) (rI0 fun i j => .int (i - j)) fSub := ⟨op_sub, den_I0 fun _ _ _ => .int _⟩
theorem o_mod : XO2 X (binaryOp .Mod) (rI (fun _ j => 0 < j) fun i j => .int (i % j)) fMod := ⟨op_mod, den_I (fun _ _ h => of_decide_eq_true h) fun _ _ _ => .int _⟩
theorem o_fdiv : XO2 X (binaryOp .FloorDiv) (rI CDiv fun i j => .int (i / j)) fDiv := ⟨op_fdiv, den_I (fun i j h => by
  rw [Bool.and_eq_true] at h
  have h1 := of_decide_eq_true h.1
  have h2 := inB_ok h.2
  exact ⟨h1, by omega⟩) fun _ _ _ => .int _⟩
theorem o_mulI : XO2 X (binaryOp .Mult) (rI CMul fun i j => .int (i * j)) fMulI := ⟨op_mul, den_I (fun i j h => by
  rw [Bool.or_eq_true] at h
  unfold CMul
  have e : (2 : Int) ^ 64 = 18446744073709551616 := by decide
  rw [e]
  rcases h with h | h
  · have := inB_ok h; unfold BMn at this; omega
  · have := inB_ok h; unfold BMn at this; omega) fun _ _ _ => .int _⟩
theorem o_pow : XO2 X (binaryOp .Pow) (rI CPow fun i j => .int (i ^ j.toNat)) fPow := ⟨op_pow, den_I (fun i j h => by
  rw [Bool.and_eq_true, Bool.and_eq_true] at h
  have h1 := of_decide_eq_true h.1
  have h2 := inB_ok h.2.1
  have h3 := inB_ok h.2.2
  unfold BMn at h3
  unfold CPow
  have e : (2 : Nat) ^ 64 = 18446744073709551616 := by decide
  rw [e]; exact ⟨h1, by omega, by omega⟩) fun _ _ _ => .int _⟩
theorem o_lt : XO2 X (compareOp .Lt) (rI0 fun i j => .bl (decide (i < j))) fLt := ⟨op_lt, den_I0 fun _ _ _ => .bl _⟩
theorem o_le : XO2 X (compareOp .LtE) (rI0 fun i j => .bl (decide (i ≤ j))) fLe := ⟨op_le, den_I0 fun _ _ _ => .bl _⟩
theorem o_gt : XO2 X (compareOp .Gt) (rI0 fun i j => .bl (decide (j < i))) fGt := ⟨op_gt, den_I0 fun _ _ _ => .bl _⟩
theorem o_ge : XO2 X (compareOp .GtE) (rI0 fun i j => .bl (decide (j ≤ i))) fGe := ⟨op_ge, den_I0 fun _ _ _ => .bl _⟩
end
end G

/-! The tree layer, 4: lists and tuples; operators and calls on them. -/
namespace G
open PySem L2

/-- the greatest length that the layer makes -/
def LIM : Nat := 1000000
theorem lim_line : LIM < sizeLine := by rw [sizeLine_eq]; decide

/-! ### views -/
def seqL (cs : Cs) : W → Option (List W)
  | .cl (.lst ts) => some (ts.map .cl)
  | .pt i => match cs[i]? with
    | some (.lst ws) => some ws
    | some (.fz (.lst ts)) => some (ts.map .cl)
    | _ => none
  | _ => none
def seqS (cs : Cs) : W → Option (List W)
  | .cl (.scr ts) => some (ts.map .cl)
  | w => seqL cs w
def seqT : W → Option (List T)
  | .cl (.tup ts) => some ts
  | _ => none
section
variable {K : Fg} {F B H : Hp} {ads : List Addr} {cs : Cs} {v : V} {x : W}
theorem seqL_ok (w : Wok K F B H ads cs) (r : RepW K B ads v x) {ws : List W} (h : seqL cs x = some ws) : ∃ a vs, v = .ref a ∧ H a = some (.lst vs) ∧ RepWs K B ads vs ws := by
  unfold seqL at h
  split at h
  · rename_i ts
    cases h
    cases r with | cl r => cases r with | lst a b => exact ⟨_, _, rfl, w.same _ _ a, .ofT b⟩
  · rename_i i
    cases r with
    | pt ha =>
      split at h
      · rename_i ws' e
        cases h
        obtain ⟨_, vs, q, rr⟩ := w.cell i _ _ ha e
        exact ⟨_, vs, rfl, q, rr⟩
      · rename_i ts e
        cases h
        obtain ⟨_, rr⟩ := w.cell i _ _ ha e
        cases rr with | lst a b => exact ⟨_, _, rfl, w.same _ _ a, .ofT b⟩
      · cases h
  · cases h
theorem seqS_ok (w : Wok K F B H ads cs) (r : RepW K B ads v x) {ws : List W} (h : seqS cs x = some ws) : ∃ a vs, v = .ref a ∧ SqL K H a vs ∧ RepWs K B ads vs ws := by
  unfold seqS at h
  split at h
  · cases h
    cases r with | cl r => cases r with | scr a b => exact ⟨_, _, rfl, same_l w.same a, .ofT b⟩
  · obtain ⟨a, vs, e, q, rr⟩ := seqL_ok w r h
    exact ⟨a, vs, e, .of q, rr⟩
theorem seqT_ok (w : Wok K F B H ads cs) (r : RepW K B ads v x) {ts : List T} (h : seqT x = some ts) : ∃ a vs, v = .ref a ∧ SqT K H a vs ∧ Reps K B vs ts := by
  unfold seqT at h
  split at h
  · cases h
    cases r with | cl r => cases r with | tup a b => exact ⟨_, _, rfl, .of (w.same _ _ a), b⟩
  · cases h
end
/-- what a value is now, read as a tree -/
def peek (cs : Cs) (x : W) : Option T := (frz 8 x cs).map (·.1)
theorem peek_ok {K : Fg} {F B H : Hp} {ads : List Addr} {cs : Cs} {v : V} {x : W} (w : Wok K F B H ads cs) (r : RepW K B ads v x) {t : T} (h : peek cs x = some t) : Rep K H v t := by
  unfold peek at h
  cases e : frz 8 x cs with
  | none => rw [e] at h; cases h
  | some p =>
    obtain ⟨t', cs'⟩ := p
    rw [e] at h
    cases h
    obtain ⟨B', s, w', q, _⟩ := frz_ok (K := K) 8 _ _ _ _ _ _ _ _ _ w r e
    exact q.mono w'.same

/-! ### new tuples, new lists -/
def newT (ws : List W) (cs : Cs) : R W := match frzs (frz 8) ws cs with
  | some (ts, cs') => .ok (.cl (.tup ts)) cs'
  | none => .no
def newL (b : Bool) (ws : List W) (cs : Cs) : R W := if b then .ok (.pt cs.length) (cs ++ [.lst ws]) else match frzs (frz 8) ws cs with
  | some (ts, cs') => .ok (.cl (.lst ts)) cs'
  | none => .no
section
variable {K : Fg} {F B H : Hp} {ads : List Addr} {cs : Cs} {Q : VK} {E : XK} {vs : List V} {ws : List W} {p : Addr}
theorem newT_ok (w : Wok K F B H ads cs) (r : RepWs K B ads vs ws) (hp : H p = none) (h : wpR (newT ws cs) (PostV K F B ads Q) (PostE K F B ads E)) : Q (.ref p) (upd H p (.tup vs)) := by
  unfold newT at h
  cases e : frzs (frz 8) ws cs with
  | none => rw [e] at h; exact h.elim
  | some q =>
    obtain ⟨ts, cs'⟩ := q
    rw [e] at h
    obtain ⟨B', s, w', q, _⟩ := frzs_ok (frz_ok (K := K) 8) w r e
    have bp : B' p = none := w'.same.free hp
    exact h (upd B' p (.tup vs)) _ ads _ (s.trans (upd_same' bp)) (List.prefix_refl _) (w'.clean _ hp) (.cl (.tup upd_same (q.mono (upd_same' bp))))
theorem newL_ok {b : Bool} (w : Wok K F B H ads cs) (r : RepWs K B ads vs ws) (hp : H p = none) (h : wpR (newL b ws cs) (PostV K F B ads Q) (PostE K F B ads E)) : Q (.ref p) (upd H p (.lst vs)) := by
  unfold newL at h
  cases b with
  | true =>
    rw [if_pos rfl] at h
    have w' : Wok K F B (upd H p (.lst vs)) (ads ++ [p]) (cs ++ [.lst ws]) := w.push hp ⟨w.same.free hp, vs, upd_same, r.mono (Same.refl _) (List.prefix_append _ _)⟩
    refine h B _ (ads ++ [p]) _ (Same.refl _) (List.prefix_append _ _) w' (.pt ?_)
    rw [← w.len, List.getElem?_append_right (Nat.le_refl _)]
    simp
  | false =>
    rw [if_neg Bool.false_ne_true] at h
    cases e : frzs (frz 8) ws cs with
    | none => rw [e] at h; exact h.elim
    | some q =>
      obtain ⟨ts, cs'⟩ := q
      rw [e] at h
      obtain ⟨B', s, w', q, _⟩ := frzs_ok (frz_ok (K := K) 8) w r e
      have bp : B' p = none := w'.same.free hp
      exact h (upd B' p (.lst vs)) _ ads _ (s.trans (upd_same' bp)) (List.prefix_refl _) (w'.clean _ hp) (.cl (.lst upd_same (q.mono (upd_same' bp))))
end
def mTup (m : MA) : ME := fun ρ cs => (m ρ cs).bind fun ws cs1 => if ws.length ≤ LIM then newT ws cs1 else .no
def mLst (b : Bool) (m : MA) : ME := fun ρ cs => (m ρ cs).bind fun ws cs1 => if ws.length ≤ LIM then newL b ws cs1 else .no
section
variable {X : Cx} {E : XK} {es : List Expr} {t : TA} {m : MA} {pos : Pos}
theorem den_tup {K : Fg} (d : DenA K E t m) : DenE K E (tTup t) (mTup m) := fun F B H ads cs σ ρ Q w l h => by
  refine d F B H ads cs σ ρ _ w l (wpR_mono (wpR_bind h) (fun ws cs1 h1 B1 H1 ads1 vs s1 p1 w1 r1 => ?_) fun _ _ h => h)
  split at h1
  · rename_i hl
    exact ⟨by rw [r1.length]; exact Nat.le_of_lt (Nat.lt_of_le_of_lt hl lim_line), fun p hp => newT_ok w1 r1 hp (wpR_mono h1 (fun _ _ h => h.mono s1 p1) fun _ _ h => h.mono s1 p1)⟩
  · exact h1.elim
theorem den_lst {K : Fg} {b : Bool} (d : DenA K E t m) : DenE K E (tLst t) (mLst b m) := fun F B H ads cs σ ρ Q w l h => by
  refine d F B H ads cs σ ρ _ w l (wpR_mono (wpR_bind h) (fun ws cs1 h1 B1 H1 ads1 vs s1 p1 w1 r1 => ?_) fun _ _ h => h)
  split at h1
  · rename_i hl
    exact ⟨by rw [r1.length]; exact Nat.le_of_lt (Nat.lt_of_le_of_lt hl lim_line), fun p hp => newL_ok w1 r1 hp (wpR_mono h1 (fun _ _ h => h.mono s1 p1) fun _ _ h => h.mono s1 p1)⟩
  · exact h1.elim
theorem x_tup {x1} (h : XA X E es t m) : XE X E (.Tuple es x1 pos) (tTup t) (mTup m) := ⟨pe_tup h.pa, den_tup h.den⟩
theorem x_lst (b : Bool) (h : XA X E es t m) : XE X E (.List es pos) (tLst t) (mLst b m) := ⟨pe_lst h.pa, den_lst h.den⟩
end

/-! ### + and * -/
def fAdd (b : Bool) : W → W → Cs → R W := fun x y cs => match x, y with
  | .cl (.int i), .cl (.int j) => .ok (.cl (.int (i + j))) cs
  | .cl (.str i), .cl (.str j) => if i.length + j.length ≤ LIM then .ok (.cl (.str (i ++ j))) cs else .no
  | .cl (.tup ts), .cl (.tup us) => if ts.length + us.length ≤ LIM then .ok (.cl (.tup (ts ++ us))) cs else .no
  | x, y => match seqL cs x, seqL cs y with
    | some ws, some zs => if ws.length + zs.length ≤ LIM then newL b (ws ++ zs) cs else .no
    | _, _ => .no
def rAddA (K : PySem.W.Frag) : R2 := fun x y H Q => (rI0 fun i j => .int (i + j)) x y H Q ∨ (∃ i j, x = .str i ∧ y = .str j ∧ i.length + j.length ≤ sizeLine ∧ Q (.str (i ++ j)) H) ∨ rCatA K x y H Q ∨ rCat x y H Q
theorem den_add {K : Fg} (b : Bool) : Den2 K (rAddA K) (fAdd b) := fun E F B H ads cs x y v u Q w rx ry h => by
  unfold fAdd at h
  split at h
  · rename_i i j
    cases rw_int rx
    cases rw_int ry
    exact .inl ⟨i, j, rfl, rfl, PostV.cl w (.int _) h⟩
  · rename_i i j
    cases rw_str rx
    cases rw_str ry
    split at h
    · rename_i hl
      exact .inr (.inl ⟨i, j, rfl, rfl, Nat.le_of_lt (Nat.lt_of_le_of_lt hl lim_line), PostV.cl w (.str _) h⟩)
    · exact h.elim
  · rename_i ts us
    split at h
    · rename_i hl
      cases rx with
      | cl rx => cases rx with
        | tup a1 b1 => cases ry with
          | cl ry => cases ry with
            | tup a2 b2 =>
              refine .inr (.inr (.inl ⟨_, _, _, _, rfl, rfl, .of (w.same _ _ a1), .of (w.same _ _ a2), by rw [b1.length, b2.length]; exact Nat.le_of_lt (Nat.lt_of_le_of_lt hl lim_line), ?_⟩))
              refine ⟨fun e => ?_, fun _ e => ?_, fun _ _ p hp => ?_⟩
              · have q := b1.append b2
                rw [e] at q
                exact PostV.cl w (.tup a2 q) h
              · have q := b1.append b2
                rw [e, List.append_nil] at q
                exact PostV.cl w (.tup a1 q) h
              · exact h (upd B p _) _ ads _ (upd_same' (w.same.free hp)) (List.prefix_refl _) (w.clean _ hp) (.cl (.tup upd_same ((b1.append b2).mono (upd_same' (w.same.free hp)))))
    · exact h.elim
  · split at h
    · rename_i ws zs h1 h2
      split at h
      · rename_i hl
        obtain ⟨a1, vs1, rfl, q1, r1⟩ := seqL_ok w rx h1
        obtain ⟨a2, vs2, rfl, q2, r2⟩ := seqL_ok w ry h2
        exact .inr (.inr (.inr ⟨a1, a2, vs1, vs2, rfl, rfl, q1, q2, by rw [r1.length, r2.length]; exact Nat.le_of_lt (Nat.lt_of_le_of_lt hl lim_line), fun p hp => newL_ok w (r1.append r2) hp h⟩))
      · exact h.elim
    · exact h.elim
end G

/-! The tree layer, 5: more operators: *, items, slices, len, ==, in, truth, isinstance, calls of built-ins. -/
namespace G
open PySem L2

section
variable {X : Cx}
theorem o_add (b : Bool) : XO2 X (binaryOp .Add) (rAddA X.K) (fAdd b) := ⟨OpR.or op_add (OpR.or op_add_str (OpR.or op_catA op_cat)), den_add b⟩
end
theorem RepWs.rep {K : Fg} {B : Hp} {ads : List Addr} {vs : List V} {ws : List W} (h : RepWs K B ads vs ws) : ∀ k : Nat, RepWs K B ads (List.replicate k vs).flatten (List.replicate k ws).flatten
  | 0 => .nil
  | k + 1 => by
    rw [List.replicate_succ, List.replicate_succ, List.flatten_cons, List.flatten_cons]
    exact RepWs.append h (RepWs.rep h k)
def fMul (b : Bool) : W → W → Cs → R W := fun x y cs => match x, y with
  | .cl (.int i), .cl (.int j) => if (inB BMn i || inB BMn j) = true then .ok (.cl (.int (i * j))) cs else .no
  | x, .cl (.int k) => match seqL cs x with
    | some ws => if inB 1000000 k = true ∧ ws.length * k.toNat ≤ LIM then newL b (List.replicate k.toNat ws).flatten cs else .no
    | none => .no
  | _, _ => .no
def rMulA (K : PySem.W.Frag) : R2 := fun x y H Q => (rI CMul fun i j => .int (i * j)) x y H Q ∨ rRep x y H Q
theorem den_mul {K : Fg} (b : Bool) : Den2 K (rMulA K) (fMul b) := fun E F B H ads cs x y v u Q w rx ry h => by
  unfold fMul at h
  split at h
  · rename_i i j
    cases rw_int rx
    cases rw_int ry
    split at h
    · rename_i c
      have c : CMul i j := by
        rw [Bool.or_eq_true] at c
        unfold CMul
        have e : (2 : Int) ^ 64 = 18446744073709551616 := by decide
        rw [e]
        rcases c with c | c
        · have := inB_ok c; unfold BMn at this; omega
        · have := inB_ok c; unfold BMn at this; omega
      exact .inl ⟨i, j, rfl, rfl, c, PostV.cl w (.int _) h⟩
    · exact h.elim
  · rename_i x k _
    cases rw_int ry
    split at h
    · rename_i ws hs
      split at h
      · rename_i hl
        obtain ⟨a1, vs1, rfl, q1, r1⟩ := seqL_ok w rx hs
        have e : ∀ n : Nat, n ≤ LIM → n ≤ sizeLine := fun n hn => Nat.le_of_lt (Nat.lt_of_le_of_lt hn lim_line)
        exact .inr ⟨a1, k, vs1, rfl, rfl, q1, by have := inB_ok hl.1; omega, by have := inB_ok hl.1; omega, by rw [r1.length]; exact e _ hl.2, fun p hp => newL_ok w (r1.rep _) hp h⟩
      · exact h.elim
    · exact h.elim
  · exact h.elim
section
variable {X : Cx}
theorem o_mul (b : Bool) : XO2 X (binaryOp .Mult) (rMulA X.K) (fMul b) := ⟨OpR.or op_mul op_rep, den_mul b⟩
end

/-! ### items -/
theorem atI_map {α β : Type} (f : α → β) (xs : List α) (i : Int) : atI (xs.map f) i = (atI xs i).map f := by
  unfold atI
  rw [List.length_map]
  cases ixN xs.length i with
  | none => rfl
  | some j => simp
theorem RepWs.atI {K : Fg} {B : Hp} {ads : List Addr} {vs : List V} {ws : List W} (h : RepWs K B ads vs ws) {i : Int} {w : W} (e : L2.atI ws i = some w) : ∃ v, L2.atI vs i = some v ∧ RepW K B ads v w := by
  unfold L2.atI at e ⊢
  rw [h.length]
  cases hj : ixN ws.length i with
  | none => rw [hj] at e; cases e
  | some j => rw [hj] at e; exact h.get (i := j) e
theorem Reps.atI {K : Fg} {B : Hp} {vs : List V} {ts : List T} (h : Reps K B vs ts) {i : Int} {t : T} (e : L2.atI ts i = some t) : ∃ v, L2.atI vs i = some v ∧ Rep K B v t := by
  unfold L2.atI at e ⊢
  rw [h.length]
  cases hj : ixN ts.length i with
  | none => rw [hj] at e; cases e
  | some j => rw [hj] at e; exact h.get (i := j) e
def fIx : W → W → Cs → R W := fun x y cs => match y with
  | .cl (.int i) => match x with
    | .cl (.tup ts) => match atI ts i with
      | some t => .ok (.cl t) cs
      | none => .no
    | .cl (.str z) => if z.length ≤ LIM then match atI z.cps.toList i with
      | some c => .ok (.cl (.str ⟨#[c]⟩)) cs
      | none => .no else .no
    | x => match seqS cs x with
      | some ws => match atI ws i with
        | some w => .ok w cs
        | none => .no
      | none => .no
  | _ => .no
theorem den_ix {K : Fg} : Den2 K (rIx K) fIx := fun E F B H ads cs x y v u Q w rx ry h => by
  unfold fIx at h
  split at h
  · rename_i i
    cases rw_int ry
    split at h
    · rename_i ts
      split at h
      · rename_i t e
        obtain ⟨a, vs, rfl, q, r⟩ := seqT_ok w rx (ts := ts) rfl
        obtain ⟨v, hv, rv⟩ := r.atI e
        exact .inr (.inl ⟨a, vs, i, v, rfl, rfl, q, hv, PostV.cl w rv h⟩)
      · exact h.elim
    · rename_i z
      split at h
      · rename_i hl
        split at h
        · rename_i c e
          cases rw_str rx
          exact .inr (.inr ⟨z, i, c, rfl, rfl, Nat.le_of_lt (Nat.lt_of_le_of_lt hl lim_line), e, PostV.cl w (.str _) h⟩)
        · exact h.elim
      · exact h.elim
    · split at h
      · rename_i ws hs
        split at h
        · rename_i w' e
          obtain ⟨a, vs, rfl, q, r⟩ := seqS_ok w rx hs
          obtain ⟨v, hv, rv⟩ := r.atI e
          exact .inl ⟨a, vs, i, v, rfl, rfl, q, hv, PostV.now w rv h⟩
        · exact h.elim
      · exact h.elim
  · exact h.elim
section
variable {X : Cx} {E : XK} {a b : Expr} {ta tb : TE} {ma mb : ME} {pos : Pos}
theorem x_ix (ha : XE X E a ta ma) (hb : XE X E b tb mb) (hs : PlainIx b := by intro _ _; rfl) : XE X E (.Subscript a b pos) (tOp (rIx X.K) ta tb) (mOp fIx ma mb) := ⟨pe_ix ix_seq ha.pe hb.pe hs, den_op ha.den hb.den den_ix⟩
end

/-! ### slices -/
abbrev MO := Loc → Cs → R (Option Int)
def PostO (K : Fg) (F B : Hp) (ads : List Addr) (Q : Option Int → Hp → Prop) : Option Int → Cs → Prop := fun b cs => ∀ B' H' ads', Same B B' → ads <+: ads' → Wok K F B' H' ads' cs → Q b H'
def DenO (K : Fg) (E : XK) (te : TO) (m : MO) : Prop := ∀ F B H ads cs σ ρ Q, Wok K F B H ads cs → OkL K B ads σ ρ → wpR (m ρ cs) (PostO K F B ads Q) (PostE K F B ads E) → te σ H Q
structure XO (X : Cx) (E : XK) (e : Option Expr) (te : TO) (m : MO) : Prop where
  po : PO X e te
  den : DenO (fx X) E te m
def mNo : MO := fun _ cs => .ok none cs
def mSome (m : ME) : MO := fun ρ cs => (m ρ cs).bind fun x cs1 => match x with
  | .cl (.int i) => .ok (some i) cs1
  | _ => .no
section
variable {X : Cx} {E : XK} {e : Expr} {te : TE} {m : ME}
theorem xo_none : XO X E none tNoPart mNo := ⟨po_none, fun F B H ads cs σ ρ Q w l h => h B H ads (Same.refl _) (List.prefix_refl _) w⟩
theorem xo_some (h : XE X E e te m) : XO X E (some e) (tPart te) (mSome m) := ⟨po_some h.pe, fun F B H ads cs σ ρ Q w l h1 => by
  refine h.den F B H ads cs σ ρ _ w l (wpR_mono (wpR_bind h1) (fun x cs1 h2 B1 H1 ads1 v s1 p1 w1 r1 => ?_) fun _ _ h => h)
  split at h2
  · cases rw_int r1
    exact ⟨_, rfl, h2 B1 H1 ads1 s1 p1 w1⟩
  · exact h2.elim⟩
end
def cutL {α : Type} (xs : List α) (lo hi : Option Int) : List α := (xs.drop (HT.sIx xs.length 0 lo)).take (HT.sIx xs.length xs.length hi - HT.sIx xs.length 0 lo)
def fSl (b : Bool) : W → Option Int → Option Int → Cs → R W := fun x lo hi cs => match x with
  | .cl (.tup ts) => .ok (.cl (.tup (cutL ts lo hi))) cs
  | .cl (.str z) => if z.length ≤ LIM then .ok (.cl (.str (cutS z lo hi))) cs else .no
  | x => match seqS cs x with
    | some ws => newL b (cutL ws lo hi) cs
    | none => .no
def rSlAny (K : PySem.W.Frag) : V → Option Int → Option Int → Hp → VK → Prop := fun x lo hi H Q => rSlA K x lo hi H Q ∨ rSlS x lo hi H Q ∨ rSlL K x lo hi H Q
theorem den_sl {K : Fg} (b : Bool) {E : XK} {F B H : Hp} {ads : List Addr} {cs : Cs} {v : V} {x : W} {lo hi : Option Int} {Q : VK} (w : Wok K F B H ads cs) (r : RepW K B ads v x) (h : wpR (fSl b x lo hi cs) (PostV K F B ads Q) (PostE K F B ads E)) : rSlAny K v lo hi H Q := by
  unfold fSl at h
  split at h
  · rename_i ts
    cases r with
    | cl r => cases r with
      | tup a1 b1 =>
        refine .inl ⟨_, _, rfl, .of (w.same _ _ a1), fun e => ?_, fun _ p hp => ?_⟩
        · rename_i vs
          have e2 : cutL ts lo hi = ts := by
            unfold cutL
            rw [← b1.length, e.1, e.2]
            rw [b1.length]
            simp
          rw [e2] at h
          exact PostV.cl w (.tup a1 b1) h
        · refine h (upd B p _) _ ads _ (upd_same' (w.same.free hp)) (List.prefix_refl _) (w.clean _ hp) (.cl (.tup upd_same ?_))
          unfold cutV cutL
          rw [b1.length]
          exact ((b1.drop _).take _).mono (upd_same' (w.same.free hp))
  · rename_i z
    split at h
    · rename_i hl
      cases rw_str r
      exact .inr (.inl ⟨z, rfl, Nat.le_of_lt (Nat.lt_of_le_of_lt hl lim_line), PostV.cl w (.str _) h⟩)
    · exact h.elim
  · split at h
    · rename_i ws hs
      obtain ⟨a, vs, rfl, q, rr⟩ := seqS_ok w r hs
      refine .inr (.inr ⟨a, vs, rfl, q, fun p hp => newL_ok w ?_ hp h⟩)
      unfold cutV cutL
      rw [rr.length]
      exact (rr.drop _).take _
    · exact h.elim
def mSl (b : Bool) (m : ME) (lo hi : MO) : ME := fun ρ cs => (m ρ cs).bind fun x cs1 => (lo ρ cs1).bind fun l cs2 => (hi ρ cs2).bind fun u cs3 => fSl b x l u cs3
section
variable {X : Cx} {E : XK} {e : Expr} {te : TE} {m : ME} {lo hi : Option Expr} {tl th : TO} {ml mh : MO} {pos p2 : Pos}
theorem x_slice (b : Bool) (he : XE X E e te m) (hl : XO X E lo tl ml) (hh : XO X E hi th mh) : XE X E (.Subscript e (.Slice lo hi none p2) pos) (tSl (rSlAny X.K) te tl th) (mSl b m ml mh) :=
  ⟨pe_slice (SlR.or sl_tupA (SlR.or sl_str sl_list)) he.pe hl.po hh.po, fun F B H ads cs σ ρ Q w l h => by
    refine he.den F B H ads cs σ ρ _ w l (wpR_mono (wpR_bind h) (fun x cs1 h1 B1 H1 ads1 v s1 p1 w1 r1 => ?_) fun _ _ h => h)
    refine hl.den F B1 H1 ads1 cs1 σ ρ _ w1 (l.mono s1 p1) (wpR_mono (wpR_bind h1) (fun y cs2 h2 B2 H2 ads2 s2 p2 w2 => ?_) fun _ _ h => h.mono s1 p1)
    refine hh.den F B2 H2 ads2 cs2 σ ρ _ w2 (l.mono (s1.trans s2) (p1.trans p2)) (wpR_mono (wpR_bind h2) (fun z cs3 h3 B3 H3 ads3 s3 p3 w3 => ?_) fun _ _ h => h.mono (s1.trans s2) (p1.trans p2))
    exact den_sl b w3 ((r1.mono s2 p2).mono s3 p3) (wpR_mono h3 (fun _ _ h => h.mono ((s1.trans s2).trans s3) ((p1.trans p2).trans p3)) fun _ _ h => h.mono ((s1.trans s2).trans s3) ((p1.trans p2).trans p3))⟩
end

/-! ### data: == and in -/
mutual
def T.pd : T → Option PyData
  | .non => some .none
  | .bl b => some (.bool b)
  | .int i => some (.int i)
  | .str x => if PySem.PyData.strOk x = true then some (.str x) else none
  | .tup ts => (T.pds ts).map .tuple
  | .lst ts => (T.pds ts).map .list
  | .scr ts => (T.pds ts).map .list
  | _ => none
def T.pds : List T → Option (List PyData)
  | [] => some []
  | t :: ts => match T.pd t, T.pds ts with
    | some d, some ds => some (d :: ds)
    | _, _ => none
end
mutual
theorem dp_of {K : Fg} {H : Hp} : ∀ (t : T) (v : V) (d : PyData), Rep K H v t → t.pd = some d → Dp K H v d ∧ d.canLay0 = true
  | .non, _, _, r, h => by cases r; cases h; exact ⟨.non, rfl⟩
  | .bl _, _, _, r, h => by cases r; cases h; exact ⟨.bl _, rfl⟩
  | .int _, _, _, r, h => by cases r; cases h; exact ⟨.int _, rfl⟩
  | .str x, _, _, r, h => by
    cases r
    unfold T.pd at h
    split at h
    · rename_i hx
      cases h
      exact ⟨.str _, by simp only [PyData.canLay0]; exact hx⟩
    · cases h
  | .ty _, _, _, _, h => by cases h
  | .wtp _, _, _, _, h => by cases h
  | .rf _, _, _, _, h => by cases h
  | .ins _ _ _, _, _, _, h => by cases h
  | .dK _ _, _, _, _, h => by cases h
  | .dT _ _, _, _, _, h => by cases h
  | .dN _ _, _, _, _, h => by cases h
  | .tup ts, _, _, r, h => by
    cases r with
    | tup a b =>
      unfold T.pd at h
      cases e : T.pds ts with
      | none => rw [e] at h; cases h
      | some ds =>
        rw [e] at h; cases h
        obtain ⟨h1, h2⟩ := dps_of ts _ ds b e
        exact ⟨.tup (.of a) h1, by simp only [PyData.canLay0]; exact h2⟩
  | .lst ts, _, _, r, h => by
    cases r with
    | lst a b =>
      unfold T.pd at h
      cases e : T.pds ts with
      | none => rw [e] at h; cases h
      | some ds =>
        rw [e] at h; cases h
        obtain ⟨h1, h2⟩ := dps_of ts _ ds b e
        exact ⟨.lst (.of a) h1, by simp only [PyData.canLay0]; exact h2⟩
  | .scr ts, _, _, r, h => by
    cases r with
    | scr a b =>
      unfold T.pd at h
      cases e : T.pds ts with
      | none => rw [e] at h; cases h
      | some ds =>
        rw [e] at h; cases h
        obtain ⟨h1, h2⟩ := dps_of ts _ ds b e
        exact ⟨.lst a h1, by simp only [PyData.canLay0]; exact h2⟩
theorem dps_of {K : Fg} {H : Hp} : ∀ (ts : List T) (vs : List V) (ds : List PyData), Reps K H vs ts → T.pds ts = some ds → DpAll K H vs ds ∧ PyData.canLayAll0 ds = true
  | [], _, _, r, h => by cases r; cases h; exact ⟨.nil, rfl⟩
  | t :: ts, _, _, r, h => by
    cases r with
    | cons r1 r2 =>
      unfold T.pds at h
      split at h
      · rename_i d ds e1 e2
        cases h
        obtain ⟨h1, h2⟩ := dp_of t _ d r1 e1
        obtain ⟨h3, h4⟩ := dps_of ts _ ds r2 e2
        exact ⟨.cons h1 h3, by simp only [PyData.canLayAll0, Bool.and_eq_true]; exact ⟨h2, h4⟩⟩
      · cases h
end
/-- a value as data, of depth at most 60 -/
def dat (cs : Cs) (x : W) : Option PyData := match peek cs x with
  | some t => match t.pd with
    | some d => if d.depth ≤ 60 then some d else none
    | none => none
  | none => none
theorem dat_ok {K : Fg} {F B H : Hp} {ads : List Addr} {cs : Cs} {v : V} {x : W} (w : Wok K F B H ads cs) (r : RepW K B ads v x) {d : PyData} (h : dat cs x = some d) : Dp K H v d ∧ SeqAt.shaped d = true ∧ d.depth ≤ 60 := by
  unfold dat at h
  split at h
  · rename_i t e
    split at h
    · rename_i d' e2
      split at h
      · rename_i hd
        cases h
        obtain ⟨h1, h2⟩ := dp_of t v d (peek_ok w r e) e2
        refine ⟨h1, ?_, hd⟩
        unfold SeqAt.shaped
        rw [Bool.and_eq_true]
        exact ⟨h2, decide_eq_true (by omega)⟩
      · cases h
    · cases h
  · cases h
def fEq : W → W → Cs → R W := fun x y cs => match dat cs x, dat cs y with
  | some d, some e => .ok (.cl (.bl (PyData.eqv d e))) cs
  | _, _ => .no
def fNe : W → W → Cs → R W := fun x y cs => match dat cs x, dat cs y with
  | some d, some e => .ok (.cl (.bl (!PyData.eqv d e))) cs
  | _, _ => .no
theorem den_eq {K : Fg} : Den2 K (rEqD K) fEq := fun E F B H ads cs x y v u Q w rx ry h => by
  unfold fEq at h
  split at h
  · rename_i d e h1 h2
    obtain ⟨a1, a2, _⟩ := dat_ok w rx h1
    obtain ⟨b1, b2, _⟩ := dat_ok w ry h2
    exact ⟨d, e, a1, b1, a2, b2, PostV.cl w (.bl _) h⟩
  · exact h.elim
theorem den_ne {K : Fg} : Den2 K (rNeD K) fNe := fun E F B H ads cs x y v u Q w rx ry h => by
  unfold fNe at h
  split at h
  · rename_i d e h1 h2
    obtain ⟨a1, a2, _⟩ := dat_ok w rx h1
    obtain ⟨b1, b2, _⟩ := dat_ok w ry h2
    exact ⟨d, e, a1, b1, a2, b2, PostV.cl w (.bl _) h⟩
  · exact h.elim
section
variable {X : Cx}
theorem o_eq (hu : X.A.units + 64 < cLine) : XO2 X (compareOp .Eq) (rEqD X.K) fEq := ⟨op_eqD hu, den_eq⟩
theorem o_ne (hu : X.A.units + 64 < cLine) : XO2 X (compareOp .NotEq) (rNeD X.K) fNe := ⟨op_neD hu, den_ne⟩
/-- x in a list or tuple of data -/
def rInA (K : PySem.W.Frag) (neg : Bool) : R2 := fun x y H Q => ∃ d ds, Dp K H x d ∧ (Dp K H y (.list ds) ∨ Dp K H y (.tuple ds)) ∧ SeqAt.shaped d = true ∧ PyData.canLayAll0 ds = true ∧ PyData.depthAll ds ≤ 60 ∧ Q (.bl (if neg then !(ds.any fun z => PyData.eqv z d) else ds.any fun z => PyData.eqv z d)) H
theorem op_inA (hu : X.A.units + 64 < cLine) : OpR X (compareOp .In) (rInA X.K false) := by
  intro pins s σ H x y v u Q I rx ry h
  obtain ⟨d, ds, hd, he, sd, se, hz, q⟩ := h
  obtain ⟨as, r1⟩ := Dp.reads I d x v hd rx
  have hroom : X.A.units + 1 + min (PyData.depthAll ds) d.depth < cLine := by
    have : min (PyData.depthAll ds) d.depth ≤ PyData.depthAll ds := Nat.min_le_left _ _
    omega
  rcases he with he | he
  · obtain ⟨bs, r2⟩ := Dp.reads I (.list ds) y u he ry
    exact SeqAt.in_list_reads r2 r1 se (SeqAt.canLay_of_shaped sd) hroom ⟨.bl _, H, I, rfl, q⟩
  · obtain ⟨bs, r2⟩ := Dp.reads I (.tuple ds) y u he ry
    exact SeqAt.in_tuple_reads r2 r1 se (SeqAt.canLay_of_shaped sd) hroom ⟨.bl _, H, I, rfl, q⟩
theorem op_ninA (hu : X.A.units + 64 < cLine) : OpR X (compareOp .NotIn) (rInA X.K true) := by
  intro pins s σ H x y v u Q I rx ry h
  obtain ⟨d, ds, hd, he, sd, se, hz, q⟩ := h
  obtain ⟨as, r1⟩ := Dp.reads I d x v hd rx
  have hroom : X.A.units + 1 + min (PyData.depthAll ds) d.depth < cLine := by
    have : min (PyData.depthAll ds) d.depth ≤ PyData.depthAll ds := Nat.min_le_left _ _
    omega
  rcases he with he | he
  · obtain ⟨bs, r2⟩ := Dp.reads I (.list ds) y u he ry
    exact SeqAt.notIn_list_reads r2 r1 se (SeqAt.canLay_of_shaped sd) hroom ⟨.bl _, H, I, rfl, q⟩
  · obtain ⟨bs, r2⟩ := Dp.reads I (.tuple ds) y u he ry
    exact SeqAt.notIn_tuple_reads r2 r1 se (SeqAt.canLay_of_shaped sd) hroom ⟨.bl _, H, I, rfl, q⟩
end
def fIn (neg : Bool) : W → W → Cs → R W := fun x y cs => match dat cs x, dat cs y with
  | some d, some (.list ds) => .ok (.cl (.bl (if neg then !(ds.any fun z => PyData.eqv z d) else ds.any fun z => PyData.eqv z d))) cs
  | some d, some (.tuple ds) => .ok (.cl (.bl (if neg then !(ds.any fun z => PyData.eqv z d) else ds.any fun z => PyData.eqv z d))) cs
  | _, _ => .no
theorem den_in {K : Fg} (neg : Bool) : Den2 K (rInA K neg) (fIn neg) := fun E F B H ads cs x y v u Q w rx ry h => by
  unfold fIn at h
  split at h
  · rename_i d ds h1 h2
    obtain ⟨a1, a2, _⟩ := dat_ok w rx h1
    obtain ⟨b1, b2, b3⟩ := dat_ok w ry h2
    refine ⟨d, ds, a1, .inl b1, a2, ?_, ?_, PostV.cl w (.bl _) h⟩
    · have := SeqAt.canLay_of_shaped b2
      simpa only [PyData.canLay0] using this
    · simp only [PyData.depth] at b3; omega
  · rename_i d ds h1 h2
    obtain ⟨a1, a2, _⟩ := dat_ok w rx h1
    obtain ⟨b1, b2, b3⟩ := dat_ok w ry h2
    refine ⟨d, ds, a1, .inr b1, a2, ?_, ?_, PostV.cl w (.bl _) h⟩
    · have := SeqAt.canLay_of_shaped b2
      simpa only [PyData.canLay0] using this
    · simp only [PyData.depth] at b3; omega
  · exact h.elim
section
variable {X : Cx}
theorem o_in (hu : X.A.units + 64 < cLine) : XO2 X (compareOp .In) (rInA X.K false) (fIn false) := ⟨op_inA hu, den_in false⟩
theorem o_nin (hu : X.A.units + 64 < cLine) : XO2 X (compareOp .NotIn) (rInA X.K true) (fIn true) := ⟨op_ninA hu, den_in true⟩
end
/-- is None, is not None, is True .. -/
def fIs (neg : Bool) : W → W → Cs → R W := fun x y cs => match y with
  | .cl .non => match x with
    | .cl .non => .ok (.cl (.bl (!neg))) cs
    | _ => .ok (.cl (.bl neg)) cs
  | _ => .no
theorem rep_non {K : Fg} {B : Hp} {ads : List Addr} {v : V} {x : W} (r : RepW K B ads v x) : (x = .cl .non ∧ v = .non) ∨ (x ≠ .cl .non ∧ v ≠ .non) := by
  cases r with
  | pt => exact .inr ⟨(fun e => nomatch e), (fun e => nomatch e)⟩
  | cl r => cases r <;> first | exact .inl ⟨rfl, rfl⟩ | exact .inr ⟨(fun e => nomatch e), (fun e => nomatch e)⟩
theorem den_isN {K : Fg} : Den2 K (fun x y H Q => y = .non ∧ Q (.bl (decide (x = .non))) H) (fIs false) := fun E F B H ads cs x y v u Q w rx ry h => by
  unfold fIs at h
  split at h
  · cases rw_non ry
    refine ⟨rfl, ?_⟩
    rcases rep_non rx with ⟨rfl, rfl⟩ | ⟨n1, n2⟩
    · exact PostV.cl w (.bl _) h
    · rw [decide_eq_false n2]
      split at h
      · exact absurd rfl n1
      · exact PostV.cl w (.bl _) h
  · exact h.elim
theorem den_notN {K : Fg} : Den2 K (fun x y H Q => y = .non ∧ Q (.bl (!decide (x = .non))) H) (fIs true) := fun E F B H ads cs x y v u Q w rx ry h => by
  unfold fIs at h
  split at h
  · cases rw_non ry
    refine ⟨rfl, ?_⟩
    rcases rep_non rx with ⟨rfl, rfl⟩ | ⟨n1, n2⟩
    · exact PostV.cl w (.bl _) h
    · rw [decide_eq_false n2]
      split at h
      · exact absurd rfl n1
      · exact PostV.cl w (.bl _) h
  · exact h.elim
section
variable {X : Cx}
theorem o_isN : XO2 X (compareOp .Is) (fun x y H Q => y = .non ∧ Q (.bl (decide (x = .non))) H) (fIs false) := ⟨op_isN, den_isN⟩
theorem o_notN : XO2 X (compareOp .IsNot) (fun x y H Q => y = .non ∧ Q (.bl (!decide (x = .non))) H) (fIs true) := ⟨op_notN, den_notN⟩
end
end G

/-! The tree layer, 6: tests, calls of built-ins, methods. -/
namespace G
open PySem L2

/-! ### truth -/
def tru (cs : Cs) : W → Option Bool
  | .cl .non => some false
  | .cl (.bl b) => some b
  | .cl (.int i) => some (i != 0)
  | .cl (.str y) => if y.length ≤ LIM then some ((y.length : Int) != 0) else none
  | .cl (.tup ts) => some (!ts.isEmpty)
  | x => (seqS cs x).map fun ws => !ws.isEmpty
theorem RepWs.isEmpty {K : Fg} {B : Hp} {ads : List Addr} {vs : List V} {ws : List W} (h : RepWs K B ads vs ws) : vs.isEmpty = ws.isEmpty := by cases h <;> rfl
theorem Reps.isEmpty {K : Fg} {B : Hp} {vs : List V} {ws : List T} (h : Reps K B vs ws) : vs.isEmpty = ws.isEmpty := by cases h <;> rfl
theorem tru_den {K : Fg} {F B H : Hp} {ads : List Addr} {cs : Cs} {v : V} {x : W} (w : Wok K F B H ads cs) (r : RepW K B ads v x) {b : Bool} (h : tru cs x = some b) : TruV K v H b := by
  unfold tru at h
  split at h
  · cases rw_non r; cases h; exact rfl
  · cases rw_bl r; cases h; exact rfl
  · cases rw_int r; cases h; exact rfl
  · cases rw_str r
    split at h
    · rename_i hl
      cases h
      exact ⟨Nat.le_of_lt (Nat.lt_of_le_of_lt hl lim_line), rfl⟩
    · cases h
  · cases h
    cases r with
    | cl r => cases r with
      | tup a b => exact .inr (.inl ⟨_, .of (w.same _ _ a), by rw [b.isEmpty]⟩)
  · cases e : seqS cs x with
    | none => rw [e] at h; cases h
    | some ws =>
      rw [e] at h; cases h
      obtain ⟨a, vs, rfl, q, rr⟩ := seqS_ok w r e
      exact .inl ⟨vs, q, by rw [rr.isEmpty]⟩
def mTru (m : ME) : MB := fun ρ cs => (m ρ cs).bind fun x cs1 => match tru cs1 x with
  | some b => .ok b cs1
  | none => .no
/-- a value that is a truth value, as a test -/
def mTst (m : ME) : MB := fun ρ cs => (m ρ cs).bind fun x cs1 => match x with
  | .cl (.bl b) => .ok b cs1
  | _ => .no
def mNot (m : MB) : MB := fun ρ cs => (m ρ cs).bind fun b cs1 => .ok (!b) cs1
def mAnd (m m' : MB) : MB := fun ρ cs => (m ρ cs).bind fun b cs1 => if b then m' ρ cs1 else .ok false cs1
def mOr (m m' : MB) : MB := fun ρ cs => (m ρ cs).bind fun b cs1 => if b then .ok true cs1 else m' ρ cs1
def mIf (m : MB) (a b : ME) : ME := fun ρ cs => (m ρ cs).bind fun c cs1 => if c then a ρ cs1 else b ρ cs1
def mAndV (a b : ME) : ME := fun ρ cs => (a ρ cs).bind fun x cs1 => match x with
  | .cl (.bl c) => if c then b ρ cs1 else .ok (.cl (.bl false)) cs1
  | _ => .no
def mOrV (a b : ME) : ME := fun ρ cs => (a ρ cs).bind fun x cs1 => match x with
  | .cl (.bl c) => if c then .ok (.cl (.bl true)) cs1 else b ρ cs1
  | _ => .no
def mNotV (a : ME) : ME := fun ρ cs => (a ρ cs).bind fun x cs1 => match x with
  | .cl (.bl c) => .ok (.cl (.bl (!c))) cs1
  | _ => .no
section
variable {K : Fg} {F B : Hp} {ads : List Addr} {Q : Bool → Hp → Prop}
theorem PostB.mono {B' : Hp} {ads' : List Addr} (s : Same B B') (p : ads <+: ads') (e : Bool) (cs : Cs) (h : PostB K F B ads Q e cs) : PostB K F B' ads' Q e cs :=
  fun B2 H2 a2 s2 p2 w2 => h B2 H2 a2 (s.trans s2) (p.trans p2) w2
theorem PostB.now {H : Hp} {cs : Cs} (w : Wok K F B H ads cs) {b : Bool} (h : PostB K F B ads Q b cs) : Q b H := h B H ads (Same.refl _) (List.prefix_refl _) w
end
section
variable {K : Fg} {E : XK} {te ta tb : TE} {m ma mb : ME} {tt tu : TT} {mt mu : MB}
theorem den_tru (d : DenE K E te m) : DenT K E (fun σ H Q => te σ H fun x H' => ∃ k, TruV K x H' k ∧ Q k H') (mTru m) := fun F B H ads cs σ ρ Q w l h => by
  refine d F B H ads cs σ ρ _ w l (wpR_mono (wpR_bind h) (fun x cs1 h1 B1 H1 ads1 v s1 p1 w1 r1 => ?_) fun _ _ h => h)
  split at h1
  · rename_i b e
    exact ⟨b, tru_den w1 r1 e, h1 B1 H1 ads1 s1 p1 w1⟩
  · exact h1.elim
theorem den_tst (d : DenE K E te m) : DenT K E (tTest te) (mTst m) := fun F B H ads cs σ ρ Q w l h => by
  refine d F B H ads cs σ ρ _ w l (wpR_mono (wpR_bind h) (fun x cs1 h1 B1 H1 ads1 v s1 p1 w1 r1 => ?_) fun _ _ h => h)
  split at h1
  · cases rw_bl r1
    exact ⟨_, rfl, h1 B1 H1 ads1 s1 p1 w1⟩
  · exact h1.elim
theorem den_not (d : DenT K E tt mt) : DenT K E (tNot tt) (mNot mt) := fun F B H ads cs σ ρ Q w l h =>
  d F B H ads cs σ ρ _ w l (wpR_mono (wpR_bind h) (fun b cs1 h1 B1 H1 ads1 s1 p1 w1 => h1 B1 H1 ads1 s1 p1 w1) fun _ _ h => h)
theorem den_and (d : DenT K E tt mt) (d' : DenT K E tu mu) : DenT K E (tAnd tt tu) (mAnd mt mu) := fun F B H ads cs σ ρ Q w l h => by
  refine d F B H ads cs σ ρ _ w l (wpR_mono (wpR_bind h) (fun b cs1 h1 B1 H1 ads1 s1 p1 w1 => ?_) fun _ _ h => h)
  cases b with
  | true => exact d' F B1 H1 ads1 cs1 σ ρ Q w1 (l.mono s1 p1) (wpR_mono h1 (fun _ _ h => h.mono s1 p1) fun _ _ h => h.mono s1 p1)
  | false => exact h1 B1 H1 ads1 s1 p1 w1
theorem den_or (d : DenT K E tt mt) (d' : DenT K E tu mu) : DenT K E (tOr tt tu) (mOr mt mu) := fun F B H ads cs σ ρ Q w l h => by
  refine d F B H ads cs σ ρ _ w l (wpR_mono (wpR_bind h) (fun b cs1 h1 B1 H1 ads1 s1 p1 w1 => ?_) fun _ _ h => h)
  cases b with
  | false => exact d' F B1 H1 ads1 cs1 σ ρ Q w1 (l.mono s1 p1) (wpR_mono h1 (fun _ _ h => h.mono s1 p1) fun _ _ h => h.mono s1 p1)
  | true => exact h1 B1 H1 ads1 s1 p1 w1
theorem den_if (d : DenT K E tt mt) (da : DenE K E ta ma) (db : DenE K E tb mb) : DenE K E (tIf tt ta tb) (mIf mt ma mb) := fun F B H ads cs σ ρ Q w l h => by
  refine d F B H ads cs σ ρ _ w l (wpR_mono (wpR_bind h) (fun b cs1 h1 B1 H1 ads1 s1 p1 w1 => ?_) fun _ _ h => h)
  cases b with
  | true => exact da F B1 H1 ads1 cs1 σ ρ Q w1 (l.mono s1 p1) (wpR_mono h1 (fun _ _ h => h.mono s1 p1) fun _ _ h => h.mono s1 p1)
  | false => exact db F B1 H1 ads1 cs1 σ ρ Q w1 (l.mono s1 p1) (wpR_mono h1 (fun _ _ h => h.mono s1 p1) fun _ _ h => h.mono s1 p1)
theorem den_andV (da : DenE K E ta ma) (db : DenE K E tb mb) : DenE K E (tAndV ta tb) (mAndV ma mb) := fun F B H ads cs σ ρ Q w l h => by
  refine da F B H ads cs σ ρ _ w l (wpR_mono (wpR_bind h) (fun x cs1 h1 B1 H1 ads1 v s1 p1 w1 r1 => ?_) fun _ _ h => h)
  split at h1
  · rename_i c
    cases rw_bl r1
    refine ⟨c, rfl, ?_⟩
    cases c with
    | true => exact db F B1 H1 ads1 cs1 σ ρ Q w1 (l.mono s1 p1) (wpR_mono h1 (fun _ _ h => h.mono s1 p1) fun _ _ h => h.mono s1 p1)
    | false => exact h1 B1 H1 ads1 _ s1 p1 w1 (.cl (.bl _))
  · exact h1.elim
theorem den_orV (da : DenE K E ta ma) (db : DenE K E tb mb) : DenE K E (tOrV ta tb) (mOrV ma mb) := fun F B H ads cs σ ρ Q w l h => by
  refine da F B H ads cs σ ρ _ w l (wpR_mono (wpR_bind h) (fun x cs1 h1 B1 H1 ads1 v s1 p1 w1 r1 => ?_) fun _ _ h => h)
  split at h1
  · rename_i c
    cases rw_bl r1
    refine ⟨c, rfl, ?_⟩
    cases c with
    | false => exact db F B1 H1 ads1 cs1 σ ρ Q w1 (l.mono s1 p1) (wpR_mono h1 (fun _ _ h => h.mono s1 p1) fun _ _ h => h.mono s1 p1)
    | true => exact h1 B1 H1 ads1 _ s1 p1 w1 (.cl (.bl _))
  · exact h1.elim
theorem den_notV (da : DenE K E ta ma) : DenE K E (tNotV ta) (mNotV ma) := fun F B H ads cs σ ρ Q w l h => by
  refine da F B H ads cs σ ρ _ w l (wpR_mono (wpR_bind h) (fun x cs1 h1 B1 H1 ads1 v s1 p1 w1 r1 => ?_) fun _ _ h => h)
  split at h1
  · rename_i c
    cases rw_bl r1
    exact ⟨c, rfl, h1 B1 H1 ads1 _ s1 p1 w1 (.cl (.bl _))⟩
  · exact h1.elim
end
section
variable {X : Cx} {E : XK} {e a b c : Expr} {te ta tb : TE} {m ma mb : ME} {tt tu : TT} {mt mu : MB} {pos : Pos} {rest : List Expr}
theorem xt_tru (h : XE X E e te m) (he : ∀ whole, isTrue e X.env whole = (do let v ← whole; standAt e.pos; holding [v] (truthy v)) := by intro _; rfl) : XT X E e (fun σ H Q => te σ H fun x H' => ∃ k, TruV X.K x H' k ∧ Q k H') (mTru m) := ⟨pt_truth h.pe he, den_tru h.den⟩
theorem xt_cmp {op : CmpOp} {r : R2} {f : W → W → Cs → R W} (o : XO2 X (compareOp op) r f) (ha : XE X E a ta ma) (hb : XE X E b tb mb) (hm : behindInMarks op b = false := by first | exact nobehind _ (by decide) (by decide) | rfl) : XT X E (.Compare a [op] [b] pos) (tTest (tOp r ta tb)) (mTst (mOp f ma mb)) :=
  ⟨pt_cmpR o.op ha.pe hb.pe hm, den_tst (den_op ha.den hb.den o.den)⟩
theorem xt_not (h : XT X E a tt mt) : XT X E (.UnaryOp .Not a pos) (tNot tt) (mNot mt) := ⟨pt_not h.pt, den_not h.den⟩
theorem xw_and1 (h : XT X E a tt mt) : XW X E (.BoolOp .And [a] pos) tt mt := ⟨pw_and1 h.pt, h.den⟩
theorem xw_or1 (h : XT X E a tt mt) : XW X E (.BoolOp .Or [a] pos) tt mt := ⟨pw_or1 h.pt, h.den⟩
theorem xw_and (h : XT X E a tt mt) (h' : XW X E (.BoolOp .And (b :: rest) pos) tu mu) : XW X E (.BoolOp .And (a :: b :: rest) pos) (tAnd tt tu) (mAnd mt mu) := ⟨pw_and h.pt h'.pw, den_and h.den h'.den⟩
theorem xw_or (h : XT X E a tt mt) (h' : XW X E (.BoolOp .Or (b :: rest) pos) tu mu) : XW X E (.BoolOp .Or (a :: b :: rest) pos) (tOr tt tu) (mOr mt mu) := ⟨pw_or h.pt h'.pw, den_or h.den h'.den⟩
theorem xt_w (h : XW X E e tt mt) : XT X E e tt mt := ⟨h.pw.pt, h.den⟩
theorem x_if (hc : XT X E c tt mt) (ha : XE X E a ta ma) (hb : XE X E b tb mb) : XE X E (.IfExp c a b pos) (tIf tt ta tb) (mIf mt ma mb) := ⟨pe_ifExp hc.pt ha.pe hb.pe, den_if hc.den ha.den hb.den⟩
theorem x_one {op} (h : XE X E a te m) : XE X E (.BoolOp op [a] pos) te m := ⟨pe_one h.pe, h.den⟩
theorem x_and (ha : XE X E a ta ma) (hb : XE X E (.BoolOp .And (b :: rest) pos) tb mb) : XE X E (.BoolOp .And (a :: b :: rest) pos) (tAndV ta tb) (mAndV ma mb) := ⟨pe_and ha.pe hb.pe, den_andV ha.den hb.den⟩
theorem x_or (ha : XE X E a ta ma) (hb : XE X E (.BoolOp .Or (b :: rest) pos) tb mb) : XE X E (.BoolOp .Or (a :: b :: rest) pos) (tOrV ta tb) (mOrV ma mb) := ⟨pe_or ha.pe hb.pe, den_orV ha.den hb.den⟩
theorem x_not (ha : XE X E a ta ma) : XE X E (.UnaryOp .Not a pos) (tNotV ta) (mNotV ma) := ⟨pe_not ha.pe, den_notV ha.den⟩
end
/-! chains -/
def mChain (f g : W → W → Cs → R W) (a b c : ME) : ME := fun ρ cs => (a ρ cs).bind fun x cs1 => (b ρ cs1).bind fun y cs2 => (f x y cs2).bind fun z cs3 => match z with
  | .cl (.bl k) => if k then (c ρ cs3).bind fun u cs4 => g y u cs4 else .ok (.cl (.bl false)) cs3
  | _ => .no
section
variable {X : Cx} {E : XK} {a b c : Expr} {ta tb tc : TE} {ma mb mc : ME} {pos : Pos} {op op' : CmpOp} {r r' : R2} {f f' : W → W → Cs → R W}
theorem den_chain {K : Fg} (da : DenE K E ta ma) (db : DenE K E tb mb) (dc : DenE K E tc mc) (dr : Den2 K r f) (dr' : Den2 K r' f') : DenE K E (tChain r r' ta tb tc) (mChain f f' ma mb mc) := fun F B H ads cs σ ρ Q w l h => by
  refine da F B H ads cs σ ρ _ w l (wpR_mono (wpR_bind h) (fun x cs1 h1 B1 H1 ads1 v s1 p1 w1 r1 => ?_) fun _ _ h => h)
  refine db F B1 H1 ads1 cs1 σ ρ _ w1 (l.mono s1 p1) (wpR_mono (wpR_bind h1) (fun y cs2 h2 B2 H2 ads2 u s2 p2 w2 r2 => ?_) fun _ _ h => h.mono s1 p1)
  have s12 := s1.trans s2
  have p12 := p1.trans p2
  refine dr E F B2 H2 ads2 cs2 v u x y _ w2 (r1.mono s2 p2) r2 (wpR_mono (wpR_bind h2) (fun z cs3 h3 B3 H3 ads3 t s3 p3 w3 r3 => ?_) fun _ _ h => h.mono s12 p12)
  have s13 := s12.trans s3
  have p13 := p12.trans p3
  split at h3
  · rename_i k
    cases rw_bl r3
    refine ⟨k, rfl, ?_⟩
    cases k with
    | true =>
      rw [if_pos rfl] at h3 ⊢
      refine dc F B3 H3 ads3 cs3 σ ρ _ w3 (l.mono s13 p13) (wpR_mono (wpR_bind h3) (fun q cs4 h4 B4 H4 ads4 t4 s4 p4 w4 r4 => ?_) fun _ _ h => h.mono s13 p13)
      exact dr' E F B4 H4 ads4 cs4 u t4 y q Q w4 ((r2.mono s3 p3).mono s4 p4) r4 (wpR_mono h4 (fun _ _ h => h.mono (s13.trans s4) (p13.trans p4)) fun _ _ h => h.mono (s13.trans s4) (p13.trans p4))
    | false =>
      rw [if_neg Bool.false_ne_true] at h3 ⊢
      exact h3 B3 H3 ads3 _ s13 p13 w3 (.cl (.bl _))
  · exact h3.elim
theorem x_chain (o : XO2 X (compareOp op) r f) (o' : XO2 X (compareOp op') r' f') (ha : XE X E a ta ma) (hb : XE X E b tb mb) (hc : XE X E c tc mc) (hm : lastMarks [op, op'] [b, c] = false := by with_unfolding_all rfl) :
    XE X E (.Compare a [op, op'] [b, c] pos) (tChain r r' ta tb tc) (mChain f f' ma mb mc) := ⟨pe_chain o.op o'.op ha.pe hb.pe hc.pe hm, den_chain ha.den hb.den hc.den o.den o'.den⟩
theorem xt_chain (o : XO2 X (compareOp op) r f) (o' : XO2 X (compareOp op') r' f') (ha : XE X E a ta ma) (hb : XE X E b tb mb) (hc : XE X E c tc mc) (hm : lastMarks [op, op'] [b, c] = false := by with_unfolding_all rfl) :
    XT X E (.Compare a [op, op'] [b, c] pos) (tTest (tChain r r' ta tb tc)) (mTst (mChain f f' ma mb mc)) := ⟨pt_chain o.op o'.op ha.pe hb.pe hc.pe hm, den_tst (den_chain ha.den hb.den hc.den o.den o'.den)⟩
end
/-! -x -/
def fNeg : W → Cs → R W := fun x cs => match x with
  | .cl (.int i) => .ok (.cl (.int (-i))) cs
  | _ => .no
section
variable {X : Cx} {E : XK} {a : Expr} {ta : TE} {ma : ME} {pos : Pos}
theorem x_neg (ha : XE X E a ta ma) : XE X E (.UnaryOp .USub a pos) (tUn (rU fun i => .int (-i)) ta) (mUn fNeg ma) := ⟨pe_un un_neg ha.pe, den_un ha.den fun E F B H ads cs x v Q w r h => by
  unfold fNeg at h
  split at h
  · rename_i i
    cases rw_int r
    exact ⟨i, rfl, PostV.cl w (.int _) h⟩
  · exact h.elim⟩
end

/-! ### calls of built-ins by values -/
structure XC (X : Cx) (f : Value) (r : List V → Hp → VK → Prop) (g : List W → Cs → R W) : Prop where
  call : CallR X f r
  den : DenL (fx X) r g
def mCall (g : List W → Cs → R W) (m : MA) : ME := fun ρ cs => (m ρ cs).bind g
section
variable {X : Cx} {E : XK} {x : Str} {p pos : Pos} {e : Expr} {es : List Expr} {t : TA} {m : MA} {id T : String} {r : List V → Hp → VK → Prop} {g : List W → Cs → R W}
theorem den_cb {K : Fg} (dr : DenL K r g) (d : DenA K E t m) : DenE K E (tCB r t) (mCall g m) := fun F B H ads cs σ ρ Q w l h => by
  refine d F B H ads cs σ ρ _ w l (wpR_mono (wpR_bind h) (fun ws cs1 h1 B1 H1 ads1 vs s1 p1 w1 r1 => ?_) fun _ _ h => h)
  exact dr E F B1 H1 ads1 cs1 vs ws Q w1 r1 (wpR_mono h1 (fun _ _ h => h.mono s1 p1) fun _ _ h => h.mono s1 p1)
theorem x_callB (c : XC X (.builtin id) r g) (hg : Gl X x) (hm : X.mg x = none) (hv : bootBuiltins x = some (.builtin id)) (ha : XA X E (e :: es) t m) (hn : x ≠ "__name__" := by decide) (hdb : (x == ("__debug__" : Str)) = false := by decide)
    (he : starEach (e :: es) X.env = (false, eval e X.env) :: starEach es X.env := by rfl) (hpl : (backTo pos (starEach es X.env)).any (·.1) = false := by rfl) : XE X E (.Call (.Name x p) (e :: es) [] pos) (tCB r t) (mCall g m) :=
  ⟨pe_callB c.call hg hm hv ha.pa hn hdb he hpl, den_cb c.den ha.den⟩
theorem x_callTy (c : XC X (.type T) r g) (hg : Gl X x) (hm : X.mg x = none) (hv : bootBuiltins x = some (.type T)) (ha : XA X E (e :: es) t m) (hn : x ≠ "__name__" := by decide) (hdb : (x == ("__debug__" : Str)) = false := by decide)
    (he : starEach (e :: es) X.env = (false, eval e X.env) :: starEach es X.env := by rfl) (hpl : (backTo pos (starEach es X.env)).any (·.1) = false := by rfl) : XE X E (.Call (.Name x p) (e :: es) [] pos) (tCB r t) (mCall g m) :=
  ⟨pe_callTy c.call hg hm hv ha.pa hn hdb he hpl, den_cb c.den ha.den⟩
end
/-- the values of a list of ints -/
def intsT : List T → Option (List Int)
  | [] => some []
  | .int i :: ts => (intsT ts).map (i :: ·)
  | _ :: _ => none
theorem intsT_ok {K : Fg} {B : Hp} : ∀ {ts : List T} {vs : List V} {ns : List Int}, Reps K B vs ts → intsT ts = some ns → vs = ns.map V.int := by
  intro ts
  induction ts with
  | nil => intro vs ns r h; cases r; cases h; rfl
  | cons t ts ih =>
    intro vs ns r h
    cases r with
    | cons r1 r2 =>
      cases t <;> first | cases h | skip
      rename_i i
      unfold intsT at h
      cases e : intsT ts with
      | none => rw [e] at h; cases h
      | some l =>
        rw [e] at h; cases h
        cases r1
        rw [ih r2 e]
        rfl
/-- a list (not a tuple) of ints, read -/
def intsW (cs : Cs) (x : W) : Option (List Int) := match peek cs x with
  | some (.lst ts) => intsT ts
  | some (.scr ts) => intsT ts
  | _ => none
theorem intsW_ok {K : Fg} {F B H : Hp} {ads : List Addr} {cs : Cs} {v : V} {x : W} (w : Wok K F B H ads cs) (r : RepW K B ads v x) {ns : List Int} (h : intsW cs x = some ns) : ∃ a, v = .ref a ∧ SqL K H a (ns.map V.int) := by
  unfold intsW at h
  split at h
  · rename_i ts e
    have q := peek_ok w r e
    cases q with
    | lst a b => rw [intsT_ok b h] at a; exact ⟨_, rfl, .of a⟩
  · rename_i ts e
    have q := peek_ok w r e
    cases q with
    | scr a b => rw [intsT_ok b h] at a; exact ⟨_, rfl, a⟩
  · cases h
section
variable {X : Cx}
def fLen : List W → Cs → R W := fun ws cs => match ws with
  | [.cl (.tup ts)] => .ok (.cl (.int ts.length)) cs
  | [.cl (.str z)] => if z.length ≤ LIM then .ok (.cl (.int z.length)) cs else .no
  | [x] => match seqS cs x with
    | some ws => .ok (.cl (.int ws.length)) cs
    | none => .no
  | _ => .no
theorem c_len : XC X (.builtin "len") (fun xs H Q => ∃ x n, xs = [x] ∧ LenV X.K x H n ∧ Q (.int n) H) fLen := ⟨call_len, fun E F B H ads cs xs vs Q w r h => by
  unfold fLen at h
  split at h
  · cases r with | cons r1 r2 => cases r2; cases r1 with | cl r1 => cases r1 with
      | tup a b => exact ⟨_, _, rfl, .inr ⟨_, .of (w.same _ _ a), rfl⟩, by rw [b.length]; exact PostV.cl w (.int _) h⟩
  · rename_i z
    split at h
    · rename_i hl
      cases r with | cons r1 r2 => cases r2; cases rw_str r1; exact ⟨_, _, rfl, ⟨Nat.le_of_lt (Nat.lt_of_le_of_lt hl lim_line), rfl⟩, PostV.cl w (.int _) h⟩
    · exact h.elim
  · split at h
    · rename_i ws hs
      cases r with | cons r1 r2 =>
        cases r2
        obtain ⟨a, vs, rfl, q, rr⟩ := seqS_ok w r1 hs
        exact ⟨_, _, rfl, .inl ⟨vs, q, rfl⟩, by rw [rr.length]; exact PostV.cl w (.int _) h⟩
    · exact h.elim
  · exact h.elim⟩
def fInt : List W → Cs → R W := fun ws cs => match ws with
  | [.cl (.int i)] => .ok (.cl (.int i)) cs
  | [.cl (.bl b)] => .ok (.cl (.int (if b then 1 else 0))) cs
  | _ => .no
theorem c_int : XC X (.type "int") (fun xs H Q => (∃ i, xs = [.int i] ∧ Q (.int i) H) ∨ ∃ k, xs = [.bl k] ∧ Q (.int (if k then 1 else 0)) H) fInt := ⟨call_int1, fun E F B H ads cs xs vs Q w r h => by
  unfold fInt at h
  split at h
  · cases r with | cons r1 r2 => cases r2; cases rw_int r1; exact .inl ⟨_, rfl, PostV.cl w (.int _) h⟩
  · cases r with | cons r1 r2 => cases r2; cases rw_bl r1; exact .inr ⟨_, rfl, PostV.cl w (.int _) h⟩
  · exact h.elim⟩
def fAbs : List W → Cs → R W := fun ws cs => match ws with
  | [.cl (.int i)] => .ok (.cl (.int (if i < 0 then -i else i))) cs
  | _ => .no
theorem c_abs : XC X (.builtin "abs") (fun xs H Q => ∃ i, xs = [.int i] ∧ Q (.int (if i < 0 then -i else i)) H) fAbs := ⟨call_abs, fun E F B H ads cs xs vs Q w r h => by
  unfold fAbs at h
  split at h
  · cases r with | cons r1 r2 => cases r2; cases rw_int r1; exact ⟨_, rfl, PostV.cl w (.int _) h⟩
  · exact h.elim⟩
/-- the greatest of a list that is not empty -/
def gmax : List Int → Int
  | [] => 0
  | [x] => x
  | x :: xs => let m := gmax xs; if m < x then x else m
def gmin : List Int → Int
  | [] => 0
  | [x] => x
  | x :: xs => let m := gmin xs; if x < m then x else m
theorem gmax_spec : ∀ {xs : List Int}, xs ≠ [] → gmax xs ∈ xs ∧ ∀ y ∈ xs, y ≤ gmax xs
  | [], h => absurd rfl h
  | [x], _ => ⟨by simp [gmax], fun y hy => by simp at hy; subst hy; simp [gmax]⟩
  | x :: y :: r, _ => by
    obtain ⟨h1, h2⟩ := gmax_spec (xs := y :: r) (by simp)
    have e : gmax (x :: y :: r) = if gmax (y :: r) < x then x else gmax (y :: r) := rfl
    rw [e]
    split
    · rename_i hlt
      refine ⟨by simp, fun z hz => ?_⟩
      rcases List.mem_cons.mp hz with rfl | hz
      · exact Int.le_refl _
      · have := h2 z hz; omega
    · rename_i hlt
      refine ⟨List.mem_cons_of_mem _ h1, fun z hz => ?_⟩
      rcases List.mem_cons.mp hz with rfl | hz
      · omega
      · exact h2 z hz
theorem gmin_spec : ∀ {xs : List Int}, xs ≠ [] → gmin xs ∈ xs ∧ ∀ y ∈ xs, gmin xs ≤ y
  | [], h => absurd rfl h
  | [x], _ => ⟨by simp [gmin], fun y hy => by simp at hy; subst hy; simp [gmin]⟩
  | x :: y :: r, _ => by
    obtain ⟨h1, h2⟩ := gmin_spec (xs := y :: r) (by simp)
    have e : gmin (x :: y :: r) = if x < gmin (y :: r) then x else gmin (y :: r) := rfl
    rw [e]
    split
    · rename_i hlt
      refine ⟨by simp, fun z hz => ?_⟩
      rcases List.mem_cons.mp hz with rfl | hz
      · exact Int.le_refl _
      · have := h2 z hz; omega
    · rename_i hlt
      refine ⟨List.mem_cons_of_mem _ h1, fun z hz => ?_⟩
      rcases List.mem_cons.mp hz with rfl | hz
      · omega
      · exact h2 z hz
def fMax : List W → Cs → R W := fun ws cs => match ws with
  | [.cl (.int i), .cl (.int j)] => .ok (.cl (.int (if j > i then j else i))) cs
  | [x] => match intsW cs x with
    | some (n :: ns) => .ok (.cl (.int (gmax (n :: ns)))) cs
    | _ => .no
  | _ => .no
def fMin : List W → Cs → R W := fun ws cs => match ws with
  | [.cl (.int i), .cl (.int j)] => .ok (.cl (.int (if j < i then j else i))) cs
  | [x] => match intsW cs x with
    | some (n :: ns) => .ok (.cl (.int (gmin (n :: ns)))) cs
    | _ => .no
  | _ => .no
def rMaxA (K : PySem.W.Frag) : List V → Hp → VK → Prop := fun xs H Q => (∃ i j, xs = [.int i, .int j] ∧ Q (.int (if j > i then j else i)) H) ∨ rMax K xs H Q
def rMinA (K : PySem.W.Frag) : List V → Hp → VK → Prop := fun xs H Q => (∃ i j, xs = [.int i, .int j] ∧ Q (.int (if j < i then j else i)) H) ∨ rMin K xs H Q
theorem c_max (hc : X.calm = true) : XC X (.builtin "max") (rMaxA X.K) fMax := ⟨CallR.or (call_max2 hc) (cr_max hc), fun E F B H ads cs xs vs Q w r h => by
  unfold fMax at h
  split at h
  · cases r with | cons r1 r2 => cases r2 with | cons r2 r3 => cases r3; cases rw_int r1; cases rw_int r2; exact .inl ⟨_, _, rfl, PostV.cl w (.int _) h⟩
  · split at h
    · rename_i n ns e
      cases r with | cons r1 r2 =>
        cases r2
        obtain ⟨a, rfl, q⟩ := intsW_ok w r1 e
        obtain ⟨g1, g2⟩ := gmax_spec (xs := n :: ns) (by simp)
        refine .inr ⟨a, n :: ns, rfl, q, by simp, fun m h1 h2 => ?_⟩
        have em : m = gmax (n :: ns) := by
          have a1 := g2 m h1
          have a2 := h2 _ g1
          omega
        rw [em]
        exact PostV.cl w (.int _) h
    · exact h.elim
  · exact h.elim⟩
theorem c_min (hc : X.calm = true) : XC X (.builtin "min") (rMinA X.K) fMin := ⟨CallR.or (call_min2 hc) (cr_min hc), fun E F B H ads cs xs vs Q w r h => by
  unfold fMin at h
  split at h
  · cases r with | cons r1 r2 => cases r2 with | cons r2 r3 => cases r3; cases rw_int r1; cases rw_int r2; exact .inl ⟨_, _, rfl, PostV.cl w (.int _) h⟩
  · split at h
    · rename_i n ns e
      cases r with | cons r1 r2 =>
        cases r2
        obtain ⟨a, rfl, q⟩ := intsW_ok w r1 e
        obtain ⟨g1, g2⟩ := gmin_spec (xs := n :: ns) (by simp)
        refine .inr ⟨a, n :: ns, rfl, q, by simp, fun m h1 h2 => ?_⟩
        have em : m = gmin (n :: ns) := by
          have a1 := g2 m h1
          have a2 := h2 _ g1
          omega
        rw [em]
        exact PostV.cl w (.int _) h
    · exact h.elim
  · exact h.elim⟩
def fSum : List W → Cs → R W := fun ws cs => match ws with
  | [x] => match intsW cs x with
    | some ns => .ok (.cl (.int ns.sum)) cs
    | none => .no
  | _ => .no
theorem c_sum (hc : X.calm = true) : XC X (.builtin "sum") (rSum X.K) fSum := ⟨cr_sum hc, fun E F B H ads cs xs vs Q w r h => by
  unfold fSum at h
  split at h
  · split at h
    · rename_i ns e
      cases r with | cons r1 r2 =>
        cases r2
        obtain ⟨a, rfl, q⟩ := intsW_ok w r1 e
        exact ⟨a, ns, rfl, q, PostV.cl w (.int _) h⟩
    · exact h.elim
  · exact h.elim⟩
def blsT : List T → Option (List Bool)
  | [] => some []
  | .bl i :: ts => (blsT ts).map (i :: ·)
  | _ :: _ => none
theorem blsT_ok {K : Fg} {B : Hp} : ∀ {ts : List T} {vs : List V} {ns : List Bool}, Reps K B vs ts → blsT ts = some ns → vs = ns.map V.bl := by
  intro ts
  induction ts with
  | nil => intro vs ns r h; cases r; cases h; rfl
  | cons t ts ih =>
    intro vs ns r h
    cases r with
    | cons r1 r2 =>
      cases t <;> first | cases h | skip
      rename_i i
      unfold blsT at h
      cases e : blsT ts with
      | none => rw [e] at h; cases h
      | some l =>
        rw [e] at h; cases h
        cases r1
        rw [ih r2 e]
        rfl
def blsW (cs : Cs) (x : W) : Option (List Bool) := match peek cs x with
  | some (.lst ts) => blsT ts
  | _ => none
theorem blsW_ok {K : Fg} {F B H : Hp} {ads : List Addr} {cs : Cs} {v : V} {x : W} (w : Wok K F B H ads cs) (r : RepW K B ads v x) {ns : List Bool} (h : blsW cs x = some ns) : ∃ a, v = .ref a ∧ SqL K H a (ns.map V.bl) := by
  unfold blsW at h
  split at h
  · rename_i ts e
    have q := peek_ok w r e
    cases q with
    | lst a b => rw [blsT_ok b h] at a; exact ⟨_, rfl, .of a⟩
  · cases h
def fAll : List W → Cs → R W := fun ws cs => match ws with
  | [x] => match blsW cs x with
    | some ns => .ok (.cl (.bl (ns.all id))) cs
    | none => .no
  | _ => .no
def fAny : List W → Cs → R W := fun ws cs => match ws with
  | [x] => match blsW cs x with
    | some ns => .ok (.cl (.bl (ns.any id))) cs
    | none => .no
  | _ => .no
theorem c_all (hc : X.calm = true) : XC X (.builtin "all") (rAll X.K) fAll := ⟨cr_all hc, fun E F B H ads cs xs vs Q w r h => by
  unfold fAll at h
  split at h
  · split at h
    · rename_i ns e
      cases r with | cons r1 r2 =>
        cases r2
        obtain ⟨a, rfl, q⟩ := blsW_ok w r1 e
        exact ⟨a, ns, rfl, q, PostV.cl w (.bl _) h⟩
    · exact h.elim
  · exact h.elim⟩
theorem c_any (hc : X.calm = true) : XC X (.builtin "any") (rAny X.K) fAny := ⟨cr_any hc, fun E F B H ads cs xs vs Q w r h => by
  unfold fAny at h
  split at h
  · split at h
    · rename_i ns e
      cases r with | cons r1 r2 =>
        cases r2
        obtain ⟨a, rfl, q⟩ := blsW_ok w r1 e
        exact ⟨a, ns, rfl, q, PostV.cl w (.bl _) h⟩
    · exact h.elim
  · exact h.elim⟩
/-- list(x), tuple(x) -/
def fList (b : Bool) : List W → Cs → R W := fun ws cs => match ws with
  | [.cl (.tup ts)] => newL b (ts.map .cl) cs
  | [x] => match seqS cs x with
    | some ws => newL b ws cs
    | none => .no
  | _ => .no
theorem c_list (b : Bool) : XC X (.type "list") (fun xs H Q => ∃ p ys, xs = [.ref p] ∧ (SqL X.K H p ys ∨ SqT X.K H p ys) ∧ ∀ l, H l = none → Q (.ref l) (upd H l (.lst ys))) (fList b) := ⟨call_list_of, fun E F B H ads cs xs vs Q w r h => by
  unfold fList at h
  split at h
  · cases r with | cons r1 r2 =>
      cases r2
      obtain ⟨a, vs, rfl, q, rr⟩ := seqT_ok w r1 rfl
      exact ⟨a, vs, rfl, .inr q, fun l hl => newL_ok w (.ofT rr) hl h⟩
  · split at h
    · rename_i ws hs
      cases r with | cons r1 r2 =>
        cases r2
        obtain ⟨a, vs, rfl, q, rr⟩ := seqS_ok w r1 hs
        exact ⟨a, vs, rfl, .inl q, fun l hl => newL_ok w rr hl h⟩
    · exact h.elim
  · exact h.elim⟩
def fTuple : List W → Cs → R W := fun ws cs => match ws with
  | [.cl (.tup ts)] => .ok (.cl (.tup ts)) cs
  | [x] => match seqS cs x with
    | some ws => newT ws cs
    | none => .no
  | _ => .no
theorem c_tuple : XC X (.type "tuple") (fun xs H Q => ∃ p ys, xs = [.ref p] ∧ ((SqL X.K H p ys ∧ ∀ l, H l = none → Q (.ref l) (upd H l (.tup ys))) ∨ (SqT X.K H p ys ∧ Q (.ref p) H))) fTuple := ⟨call_tuple_of, fun E F B H ads cs xs vs Q w r h => by
  unfold fTuple at h
  split at h
  · cases r with | cons r1 r2 =>
      cases r2
      have r0 := r1
      obtain ⟨a, vs, rfl, q, rr⟩ := seqT_ok w r1 rfl
      exact ⟨a, vs, rfl, .inr ⟨q, PostV.now w r0 h⟩⟩
  · split at h
    · rename_i ws hs
      cases r with | cons r1 r2 =>
        cases r2
        obtain ⟨a, vs, rfl, q, rr⟩ := seqS_ok w r1 hs
        exact ⟨a, vs, rfl, .inl ⟨q, fun l hl => newT_ok w rr hl h⟩⟩
    · exact h.elim
  · exact h.elim⟩
end
end G

/-! The tree layer, 7: what is walked; targets; statements; loops; comprehensions. -/
namespace G
open PySem L2 PyProof.Rows

/-! ### what is walked -/
/-- a list, a tuple or a text, walked -/
def iSeq (K : PySem.W.Frag) (tl : TE) : TI := fun σ H R => tl σ H fun x H1 => (∃ a, x = .ref a ∧ (∃ xs, SqL K H1 a xs) ∧ R (Itl K a) H1) ∨ (∃ a, x = .ref a ∧ (∃ xs, SqT K H1 a xs) ∧ R (Itt K a) H1)
theorem pi_seq {X : Cx} {tg l : Expr} {tl : TE} (hl : PE X l tl) : PI X tg l (iSeq X.K tl) := by
  refine ⟨fun pins s σ H R I h => ?_⟩
  refine thn (hl.run pins s σ H _ I h) fun v s1 ⟨x, H1, I1, r1, q1⟩ => ?_
  rcases q1 with ⟨a, e, ⟨xs, hq⟩, q⟩ | ⟨a, e, ⟨xs, hq⟩, q⟩
  · subst e
    cases r1
    obtain ⟨its, rv, p, hz⟩ := I1.list hq
    refine wpAny_pyIter_list p.isList ?_
    refine ⟨s1.heap.objs.size, [s1.heap.objs.size], _, _, H1, rfl, I1.kept (t' := s1.toks) fun b o e => Heap.get?_push_of_some _ e, turn_list a _, ⟨_, Heap.get?_push_size _ rfl, rfl, rfl⟩, fun b hb => ?_, q⟩
    have e : b = s1.heap.objs.size := by simpa using hb
    subst e
    exact I1.fpOk (Nat.le_refl _) (I1.hok.fresh (Nat.le_refl _))
  · subst e
    cases r1
    obtain ⟨its, rv, p, hz⟩ := I1.tuple hq
    refine wpAny_pyIter_tuple (show s1.heap.IsTuple a its.toArray from p) ?_
    refine ⟨s1.heap.objs.size, [s1.heap.objs.size], _, _, H1, rfl, I1.kept (t' := s1.toks) fun b o e => Heap.get?_push_of_some _ e, turn_tuple a _, ⟨_, Heap.get?_push_size _ rfl, rfl, rfl⟩, fun b hb => ?_, q⟩
    have e : b = s1.heap.objs.size := by simpa using hb
    subst e
    exact I1.fpOk (Nat.le_refl _) (I1.hok.fresh (Nat.le_refl _))
/-- the items of a sequence that is read (frozen first) -/
def itemsT (x : W) (cs : Cs) : R (List T) := match frz 8 x cs with
  | some (.lst ts, cs1) => .ok ts cs1
  | some (.tup ts, cs1) => .ok ts cs1
  | some (.scr ts, cs1) => .ok ts cs1
  | _ => .no
def mSeq (m : ME) : MI := fun ρ cs => (m ρ cs).bind itemsT
theorem yt_at {K : Fg} {B : Hp} {vs : List V} {ts : List T} (r : Reps K B vs ts) : ∀ i H x H', i < ts.length → YAt vs i H x H' → YT K B ts i H x H' := fun i H x H' hi y F B1 ads cs s w => by
  obtain ⟨e, hx⟩ := y
  subst e
  obtain ⟨t, ht, rt⟩ := r.getV hx
  exact ⟨t, B1, ht, Same.refl _, w, rt.mono s⟩
theorem den_seq {K : Fg} {E : XK} {te : TE} {m : ME} (d : DenE K E te m) : DenI K E (iSeq K te) (mSeq m) := fun F B H ads cs σ ρ Q w l h => by
  refine d F B H ads cs σ ρ _ w l (wpR_mono (wpR_bind h) (fun x cs1 h1 B1 H1 ads1 v s1 p1 w1 r1 => ?_) fun _ _ h => h)
  unfold itemsT at h1
  split at h1
  · rename_i ts cs2 e
    obtain ⟨B2, s2, w2, q2, _⟩ := frz_ok (K := K) 8 _ _ _ _ _ _ _ _ _ w1 r1 e
    cases q2 with
    | lst a b =>
      rename_i a0 vs
      refine .inl ⟨_, rfl, ⟨vs, .of (w2.same _ _ a)⟩, h1 B2 H1 ads1 _ (s1.trans s2) p1 w2 ?_⟩
      have := walk_list (K := K) (a := a0) (xs := vs)
      rw [b.length] at this
      exact this.mono (fun H hs => .of (hs _ _ a)) fun i H x H' hi _ y => yt_at b i H x H' hi y
  · rename_i ts cs2 e
    obtain ⟨B2, s2, w2, q2, _⟩ := frz_ok (K := K) 8 _ _ _ _ _ _ _ _ _ w1 r1 e
    cases q2 with
    | tup a b =>
      rename_i a0 vs
      refine .inr ⟨_, rfl, ⟨vs, .of (w2.same _ _ a)⟩, h1 B2 H1 ads1 _ (s1.trans s2) p1 w2 ?_⟩
      have := walk_tup (K := K) (a := a0) (xs := vs)
      rw [b.length] at this
      exact this.mono (fun H hs => .of (hs _ _ a)) fun i H x H' hi _ y => yt_at b i H x H' hi y
  · rename_i ts cs2 e
    obtain ⟨B2, s2, w2, q2, _⟩ := frz_ok (K := K) 8 _ _ _ _ _ _ _ _ _ w1 r1 e
    cases q2 with
    | scr a b =>
      rename_i a0 vs
      refine .inl ⟨_, rfl, ⟨vs, same_l w2.same a⟩, h1 B2 H1 ads1 _ (s1.trans s2) p1 w2 ?_⟩
      have := walk_list (K := K) (a := a0) (xs := vs)
      rw [b.length] at this
      exact this.mono (fun H hs => same_l hs a) fun i H x H' hi _ y => yt_at b i H x H' hi y
  · exact h1.elim
theorem xi_seq {X : Cx} {E : XK} {tg e : Expr} {te : TE} {m : ME} (h : XE X E e te m) : XI X E tg e (iSeq X.K te) (mSeq m) := ⟨pi_seq h.pe, den_seq h.den⟩

def rangeT (lo : Int) (n : Nat) : List T := (List.range n).map fun i => .int (lo + (i : Nat))
theorem yt_range {K : Fg} {B : Hp} {lo : Int} {n : Nat} : Walk (Itr lo n) (rangeT lo n).length (fun H => Same B H) (YT K B (rangeT lo n)) := by
  have := walk_range (lo := lo) (n := n)
  have e : (rangeT lo n).length = n := by simp [rangeT]
  rw [e]
  refine this.mono (fun _ _ => trivial) fun i H x H' hi _ y F B1 ads cs s w => ?_
  obtain ⟨e1, e2⟩ := y
  subst e1 e2
  exact ⟨.int (lo + (i : Nat)), B1, by simp [rangeT, hi], Same.refl _, w, .int _⟩
def mRng1 (m : MA) : MI := fun ρ cs => (m ρ cs).bind fun ws cs1 => match ws with
  | [.cl (.int j)] => if inB 3999999999999 j = true then .ok (rangeT 0 j.toNat) cs1 else .no
  | _ => .no
def mRng2 (m : MA) : MI := fun ρ cs => (m ρ cs).bind fun ws cs1 => match ws with
  | [.cl (.int i), .cl (.int j)] => if inB 3999999999999 i = true ∧ inB 3999999999999 j = true then .ok (rangeT i (j - i).toNat) cs1 else .no
  | _ => .no
theorem den_rng1 {K : Fg} {E : XK} {ta : TA} {m : MA} (d : DenA K E ta m) : DenI K E (iRng1 ta) (mRng1 m) := fun F B H ads cs σ ρ Q w l h => by
  refine d F B H ads cs σ ρ _ w l (wpR_mono (wpR_bind h) (fun ws cs1 h1 B1 H1 ads1 vs s1 p1 w1 r1 => ?_) fun _ _ h => h)
  split at h1
  · split at h1
    · rename_i j hj
      cases r1 with | cons r1 r2 =>
        cases r2
        cases rw_int r1
        have hj := inB_ok hj
        exact ⟨j, rfl, by omega, by omega, h1 B1 H1 ads1 _ s1 p1 w1 yt_range⟩
    · exact h1.elim
  · exact h1.elim
theorem den_rng2 {K : Fg} {E : XK} {ta : TA} {m : MA} (d : DenA K E ta m) : DenI K E (iRng2 ta) (mRng2 m) := fun F B H ads cs σ ρ Q w l h => by
  refine d F B H ads cs σ ρ _ w l (wpR_mono (wpR_bind h) (fun ws cs1 h1 B1 H1 ads1 vs s1 p1 w1 r1 => ?_) fun _ _ h => h)
  split at h1
  · split at h1
    · rename_i i j hj
      cases r1 with | cons r1 r2 =>
        cases r2 with | cons r2 r3 =>
          cases r3
          cases rw_int r1
          cases rw_int r2
          have hi := inB_ok hj.1
          have hj := inB_ok hj.2
          exact ⟨i, j, rfl, ⟨by omega, by omega, by omega, by omega⟩, h1 B1 H1 ads1 _ s1 p1 w1 yt_range⟩
    · exact h1.elim
  · exact h1.elim
section
variable {X : Cx} {E : XK} {tg a b : Expr} {ta : TA} {m : MA} {p pos : Pos}
theorem xi_rng1 (hg : Gl X "range") (hm : X.mg "range" = none) (ha : XA X E [a] ta m) (hs : starEach [a] X.env = [(false, eval a X.env)] := by rfl) : XI X E tg (.Call (.Name "range" p) [a] [] pos) (iRng1 ta) (mRng1 m) := ⟨pi_range1 hg hm ha.pa hs, den_rng1 ha.den⟩
theorem xi_rng2 (hg : Gl X "range") (hm : X.mg "range" = none) (ha : XA X E [a, b] ta m) (hs : starEach [a, b] X.env = [(false, eval a X.env), (false, eval b X.env)] := by rfl) (hs2 : starEach [b] X.env = [(false, eval b X.env)] := by rfl) :
    XI X E tg (.Call (.Name "range" p) [a, b] [] pos) (iRng2 ta) (mRng2 m) := ⟨pi_range2 hg hm ha.pa hs hs2, den_rng2 ha.den⟩
end

/-! ### targets -/
def mgName (i : Nat) : MG := fun w ρ cs => .ok (ρ.set i (some w)) cs
abbrev MGs := List W → Loc → Cs → R Loc
def mgNil : MGs := fun ws ρ cs => match ws with
  | [] => .ok ρ cs
  | _ => .no
def mgCons (a : MG) (b : MGs) : MGs := fun ws ρ cs => match ws with
  | w :: r => (a w ρ cs).bind fun ρ' cs' => b r ρ' cs'
  | [] => .no
/-- a tuple of n items taken apart -/
def mgTup (n : Nat) (b : MGs) : MG := fun w ρ cs => match w with
  | .cl (.tup ts) => if ts.length = n then b (ts.map .cl) ρ cs else .no
  | _ => .no
def DenGs (K : Fg) (E : XK) (te : TGs) (m : MGs) : Prop := ∀ F B H ads cs σ ρ vs ws Q, Wok K F B H ads cs → OkL K B ads σ ρ → RepWs K B ads vs ws → wpR (m ws ρ cs) (PostL K F B ads Q) (PostE K F B ads E) → te vs σ H Q
structure XGs (X : Cx) (E : XK) (tgs : List Expr) (te : TGs) (m : MGs) : Prop where
  pgs : PGs X tgs te
  den : DenGs (fx X) E te m
theorem PostL.mono {K : Fg} {F B B' : Hp} {ads ads' : List Addr} {Q : L2.St → Hp → Prop} (s : Same B B') (p : ads <+: ads') (e : Loc) (cs : Cs) (h : PostL K F B ads Q e cs) : PostL K F B' ads' Q e cs :=
  fun B2 H2 a2 σ s2 p2 w2 r2 => h B2 H2 a2 σ (s.trans s2) (p.trans p2) w2 r2
section
variable {K : Fg} {E : XK}
theorem den_gName {i : Nat} : DenG K E (gName i) (mgName i) := fun F B H ads cs σ ρ v w Q wk l r h => h B H ads _ (Same.refl _) (List.prefix_refl _) wk (l.set r i)
theorem den_gNil : DenGs K E gNil mgNil := fun F B H ads cs σ ρ vs ws Q wk l r h => by
  unfold mgNil at h
  split at h
  · cases r
    exact ⟨rfl, h B H ads _ (Same.refl _) (List.prefix_refl _) wk l⟩
  · exact h.elim
theorem den_gCons {t : TG} {u : TGs} {a : MG} {b : MGs} (d : DenG K E t a) (d' : DenGs K E u b) : DenGs K E (gCons t u) (mgCons a b) := fun F B H ads cs σ ρ vs ws Q wk l r h => by
  unfold mgCons at h
  split at h
  · rename_i w ws'
    cases r with
    | cons r1 r2 =>
      refine ⟨_, _, rfl, d F B H ads cs σ ρ _ w _ wk l r1 (wpR_mono (wpR_bind h) (fun ρ' cs1 h1 B1 H1 ads1 σ1 s1 p1 w1 l1 => ?_) fun _ _ h => h)⟩
      exact d' F B1 H1 ads1 cs1 σ1 ρ' _ ws' Q w1 l1 (r2.mono s1 p1) (wpR_mono h1 (fun _ _ h => h.mono s1 p1) fun _ _ h => h.mono s1 p1)
  · exact h.elim
theorem den_gTup {n : Nat} {t : TGs} {b : MGs} (d : DenGs K E t b) : DenG K E (gTup K n t) (mgTup n b) := fun F B H ads cs σ ρ v w Q wk l r h => by
  unfold mgTup at h
  split at h
  · split at h
    · rename_i ts hn
      cases r with
      | cl r => cases r with
        | tup a b => exact ⟨_, _, rfl, .of (wk.same _ _ a), by rw [b.length]; exact hn, d F B H ads cs σ ρ _ _ Q wk l (.ofT b) h⟩
    · exact h.elim
  · exact h.elim
end
section
variable {X : Cx} {E : XK} {pos : Pos}
theorem xg_name {i : Nat} {x : Str} (hN : X.N.Nodup) (hi : X.N[i]? = some x := by rfl) (hx : L2.Loc X.env.scope x := by first | exact Or.inl rfl | exact Or.inr rfl) (hf : X.fn x = true ∨ X.env.scope.names.lookup x = some .local := by first | exact .inl rfl | exact .inr rfl | assumption) : XG X E (.Name x pos) (gName i) (mgName i) := ⟨pg_name hN hi hx hf, den_gName⟩
theorem xgs_nil : XGs X E [] gNil mgNil := ⟨pgs_nil, den_gNil⟩
theorem xgs_cons {e : Expr} {es : List Expr} {t : TG} {u : TGs} {a : MG} {b : MGs} (h1 : XG X E e t a) (h2 : XGs X E es u b) (hs : (assignEach (e :: es) X.env).map (·.2) = assign e X.env :: (assignEach es X.env).map (·.2) := by rfl) : XGs X E (e :: es) (gCons t u) (mgCons a b) := ⟨pgs_cons h1.pg h2.pgs hs, den_gCons h1.den h2.den⟩
theorem xg_tup {es : List Expr} {k : Nat} {t : TGs} {b : MGs} {n : Nat} (hc : X.calm = true) (h : XGs X E es t b) (hn : (assignEach es X.env).length = n := by rfl) (hst : (assignEach es X.env).findIdx? (·.1) = none := by rfl) : XG X E (.Tuple es k pos) (gTup X.K n t) (mgTup n b) := ⟨pg_tup hc h.pgs hn hst, den_gTup h.den⟩
end
/-- xs[i] = v -/
def fSet : W → W → W → Cs → R Loc → R Loc := fun o i v cs k => match o, i with
  | .pt j, .cl (.int n) => match cs[j]? with
    | some (.lst ws) => match ixN ws.length n with
      | some q => match k with
        | .ok ρ _ => .ok ρ (cs.set j (.lst (ws.set q v)))
        | _ => .no
      | none => .no
    | _ => .no
  | _, _ => .no
def mgSub (a b : ME) : MG := fun w ρ cs => (a ρ cs).bind fun o cs1 => (b ρ cs1).bind fun i cs2 => fSet o i w cs2 (.ok ρ cs2)
theorem den_gSub {K : Fg} {E : XK} {to ti : TE} {a b : ME} (da : DenE K E to a) (db : DenE K E ti b) : DenG K E (gSub to ti rSetL) (mgSub a b) := fun F B H ads cs σ ρ v w Q wk l r h => by
  refine da F B H ads cs σ ρ _ wk l (wpR_mono (wpR_bind h) (fun o cs1 h1 B1 H1 ads1 ov s1 p1 w1 r1 => ?_) fun _ _ h => h)
  refine db F B1 H1 ads1 cs1 σ ρ _ w1 (l.mono s1 p1) (wpR_mono (wpR_bind h1) (fun i cs2 h2 B2 H2 ads2 iv s2 p2 w2 r2 => ?_) fun _ _ h => h.mono s1 p1)
  have s12 := s1.trans s2
  have p12 := p1.trans p2
  unfold fSet at h2
  split at h2
  · rename_i j n
    split at h2
    · rename_i ws hj
      split at h2
      · rename_i q hq
        cases rw_int r2
        cases r1 with
        | pt ha =>
          have ha2 := pre_get p2 ha
          obtain ⟨hb, vs, hv, rr⟩ := w2.cell j _ _ ha2 hj
          refine ⟨_, vs, n, q, rfl, rfl, hv, by rw [rr.length]; exact hq, ?_⟩
          have w3 : Wok K F B2 (upd H2 _ (.lst (vs.set q v))) ads2 (cs2.set j (.lst (ws.set q w))) := w2.put ha2 hb ⟨hb, _, upd_same, rr.set (r.mono s12 p12) q⟩
          exact h2 B2 _ ads2 σ s12 p12 w3 (l.mono s12 p12)
      · exact h2.elim
    · exact h2.elim
  · exact h2.elim
theorem xg_sub {X : Cx} {E : XK} {o i : Expr} {to ti : TE} {a b : ME} {pos : Pos} (ho : XE X E o to a) (hi : XE X E i ti b)
    (ha : ∀ v, assign (.Subscript o i pos) X.env v = (do
      let ov ← holding [v] (eval o X.env)
      let iv ← holding [v, ov] (eval i X.env)
      standAt pos
      holding [v, ov, iv] (setItem ov iv v)
      release [v, ov, iv] []) := by intro _; rfl) : XG X E (.Subscript o i pos) (gSub to ti rSetL) (mgSub a b) := ⟨pg_sub ho.pe hi.pe set_list ha, den_gSub ho.den hi.den⟩

/-! ### statements -/
def sAsg (m : ME) (g : MG) : MS := fun ρ cs => (m ρ cs).bind fun w cs1 => (g w ρ cs1).bind fun ρ' cs2 => .ok (.nx ρ') cs2
def sExp (m : ME) : MS := fun ρ cs => (m ρ cs).bind fun _ cs1 => .ok (.nx ρ) cs1
def sRet (m : ME) : MS := fun ρ cs => (m ρ cs).bind fun w cs1 => .ok (.rt w) cs1
def sRetN : MS := fun ρ cs => .ok (.rt (.cl .non)) cs
def sPass : MS := fun ρ cs => .ok (.nx ρ) cs
def sBrk : MS := fun ρ cs => .ok (.bk ρ) cs
def sCnt : MS := fun ρ cs => .ok (.ct ρ) cs
def sNever : MS := fun _ _ => .no
def sIf (c : MB) (a b : MS) : MS := fun ρ cs => (c ρ cs).bind fun t cs1 => if t then a ρ cs1 else b ρ cs1
def sSeq (a b : MS) : MS := fun ρ cs => (a ρ cs).bind fun f cs1 => match f with
  | .nx ρ' => b ρ' cs1
  | f => .ok f cs1
theorem PostS.mono {K : Fg} {F B B' : Hp} {ads ads' : List Addr} {D : Ends} (s : Same B B') (p : ads <+: ads') (e : Fl) (cs : Cs) (h : PostS K F B ads D e cs) : PostS K F B' ads' D e cs :=
  fun B2 H2 a2 s2 p2 w2 => h B2 H2 a2 (s.trans s2) (p.trans p2) w2
section
variable {K : Fg} {E : XK} {te : TE} {m : ME} {g : TG} {mg : MG} {t u : TS} {a b : MS} {tc : TT} {mc : MB}
theorem den_asg (d : DenE K E te m) (dg : DenG K E g mg) : DenS K E (tAsg te g) (sAsg m mg) := fun F B H ads cs σ ρ D w l h => by
  refine d F B H ads cs σ ρ _ w l (wpR_mono (wpR_bind h) (fun x cs1 h1 B1 H1 ads1 v s1 p1 w1 r1 => ?_) fun _ _ h => h)
  refine dg F B1 H1 ads1 cs1 σ ρ v x _ w1 (l.mono s1 p1) r1 (wpR_mono (wpR_bind h1) (fun ρ' cs2 h2 B2 H2 ads2 σ2 s2 p2 w2 l2 => ?_) fun _ _ h => h.mono s1 p1)
  exact h2 B2 H2 ads2 (s1.trans s2) (p1.trans p2) w2 σ2 l2
theorem den_drop (d : DenE K E te m) : DenS K E (tDrop te) (sExp m) := fun F B H ads cs σ ρ D w l h =>
  d F B H ads cs σ ρ _ w l (wpR_mono (wpR_bind h) (fun x cs1 h1 B1 H1 ads1 v s1 p1 w1 r1 => h1 B1 H1 ads1 s1 p1 w1 σ (l.mono s1 p1)) fun _ _ h => h)
theorem den_ret (d : DenE K E te m) : DenS K E (tRet te) (sRet m) := fun F B H ads cs σ ρ D w l h =>
  d F B H ads cs σ ρ _ w l (wpR_mono (wpR_bind h) (fun x cs1 h1 B1 H1 ads1 v s1 p1 w1 r1 => h1 B1 H1 ads1 s1 p1 w1 v r1) fun _ _ h => h)
theorem den_retN : DenS K E tRetN sRetN := fun F B H ads cs σ ρ D w l h => h B H ads (Same.refl _) (List.prefix_refl _) w _ (.cl .non)
theorem den_next : DenS K E tNext sPass := fun F B H ads cs σ ρ D w l h => h B H ads (Same.refl _) (List.prefix_refl _) w σ l
theorem den_brk : DenS K E tBreak sBrk := fun F B H ads cs σ ρ D w l h => h B H ads (Same.refl _) (List.prefix_refl _) w σ l
theorem den_cnt : DenS K E tCont sCnt := fun F B H ads cs σ ρ D w l h => h B H ads (Same.refl _) (List.prefix_refl _) w σ l
theorem den_never : DenS K E tNever sNever := fun F B H ads cs σ ρ D w l h => h.elim
theorem den_ifS (d : DenT K E tc mc) (da : DenS K E t a) (db : DenS K E u b) : DenS K E (tIfS tc t u) (sIf mc a b) := fun F B H ads cs σ ρ D w l h => by
  refine d F B H ads cs σ ρ _ w l (wpR_mono (wpR_bind h) (fun c cs1 h1 B1 H1 ads1 s1 p1 w1 => ?_) fun _ _ h => h)
  cases c with
  | true => exact da F B1 H1 ads1 cs1 σ ρ D w1 (l.mono s1 p1) (wpR_mono h1 (fun _ _ h => h.mono s1 p1) fun _ _ h => h.mono s1 p1)
  | false => exact db F B1 H1 ads1 cs1 σ ρ D w1 (l.mono s1 p1) (wpR_mono h1 (fun _ _ h => h.mono s1 p1) fun _ _ h => h.mono s1 p1)
theorem den_seqS (da : DenS K E t a) (db : DenS K E u b) : DenS K E (tSeq t u) (sSeq a b) := fun F B H ads cs σ ρ D w l h => by
  refine da F B H ads cs σ ρ _ w l (wpR_mono (wpR_bind h) (fun f cs1 h1 B1 H1 ads1 s1 p1 w1 => ?_) fun _ _ h => h)
  cases f with
  | nx ρ' => exact fun σ' l' => db F B1 H1 ads1 cs1 σ' ρ' D w1 l' (wpR_mono h1 (fun _ _ h => h.mono s1 p1) fun _ _ h => h.mono s1 p1)
  | rt x => exact h1 B1 H1 ads1 s1 p1 w1
  | bk ρ' => exact h1 B1 H1 ads1 s1 p1 w1
  | ct ρ' => exact h1 B1 H1 ads1 s1 p1 w1
end
section
variable {X : Cx} {E : XK} {e : Expr} {te : TE} {m : ME} {tg : Expr} {g : TG} {mg : MG} {t u : TS} {a b : MS} {tc : TT} {mc : MB} {pos : Pos} {st : Stmt} {rest sts : List Stmt}
theorem s_asg (he : XE X E e te m) (hg : XG X E tg g mg) (hs : swapsWithSole [tg] e pos.line X.env = pure false := by rfl) (hw : swappedStores [tg] e X.env = pure none := by rfl) (h1 : (assignEach [tg] X.env).map (·.2) = [assign tg X.env] := by rfl) : XS X E (.Assign [tg] e pos) (tAsg te g) (sAsg m mg) := ⟨ps_asg he.pe hg.pg hs hw h1, den_asg he.den hg.den⟩
theorem s_set {i : Nat} {x : Str} {pos' : Pos} (hN : X.N.Nodup) (he : XE X E e te m) (hi : X.N[i]? = some x := by rfl) (hx : L2.Loc X.env.scope x := by first | exact Or.inl rfl | exact Or.inr rfl) (hs : swapsWith e (some (.Name x pos')) pos.line X.env = pure false := by rfl) (hf : X.fn x = true ∨ X.env.scope.names.lookup x = some .local := by first | exact .inl rfl | exact .inr rfl | assumption) :
    XS X E (.Assign [.Name x pos'] e pos) (tAsg te (gName i)) (sAsg m (mgName i)) := ⟨ps_set hN hi hx he.pe hs hf, den_asg he.den den_gName⟩
theorem s_expr (he : XE X E e te m) (hs : swapsWith e none pos.line X.env = pure false := by rfl) : XS X E (.Expr e pos) (tDrop te) (sExp m) := ⟨ps_expr he.pe hs, den_drop he.den⟩
theorem s_ret (he : XE X E e te m) : XS X E (.Return (some e) pos) (tRet te) (sRet m) := ⟨ps_ret he.pe, den_ret he.den⟩
theorem s_retN : XS X E (.Return none pos) tRetN sRetN := ⟨ps_retN, den_retN⟩
theorem s_pass : XS X E (.Pass pos) tNext sPass := ⟨ps_pass, den_next⟩
theorem s_doc {x j pos pos'} : XS X E (.Expr (.Constant (.str x) j pos) pos') tNext sPass := ⟨ps_doc, den_next⟩
theorem s_brk : XS X E (.Break pos) tBreak sBrk := ⟨ps_break, den_brk⟩
theorem s_cnt : XS X E (.Continue pos) tCont sCnt := ⟨ps_continue, den_cnt⟩
theorem s_never : XS X E st tNever sNever := ⟨ps_never, den_never⟩
theorem ss_never : XSs X E sts tNever sNever := ⟨pss_never, den_never⟩
theorem s_if {c : Expr} {sa sb : List Stmt} (hc : XT X E c tc mc) (ha : XSs X E sa t a) (hb : XSs X E sb u b) : XS X E (.If c sa sb pos) (tIfS tc t u) (sIf mc a b) := ⟨ps_if hc.pt ha.ps hb.ps, den_ifS hc.den ha.den hb.den⟩
theorem ss_nil : XSs X E [] tNext sPass := ⟨pss_nil, den_next⟩
theorem ss_one (h : XS X E st t a) : XSs X E [st] t a := ⟨pss_one h.ps, h.den⟩
theorem ss_cons (h : XS X E st t a) (h' : XSs X E rest u b) : XSs X E (st :: rest) (tSeq t u) (sSeq a b) := ⟨pss_cons h.ps h'.ps, den_seqS h.den h'.den⟩
end
/-! ### for -/
def forGo (mg : MG) (body : MS) : List T → Loc → Cs → R Fl
  | [], ρ, cs => .ok (.nx ρ) cs
  | t :: ts, ρ, cs => (mg (.cl t) ρ cs).bind fun ρ1 cs1 => (body ρ1 cs1).bind fun f cs2 => match f with
    | .nx ρ2 => forGo mg body ts ρ2 cs2
    | .ct ρ2 => forGo mg body ts ρ2 cs2
    | .bk ρ2 => .ok (.nx ρ2) cs2
    | .rt w => .ok (.rt w) cs2
def sFor (mi : MI) (mg : MG) (body : MS) : MS := fun ρ cs => (mi ρ cs).bind fun ts cs1 => forGo mg body ts ρ cs1
theorem den_for {K : Fg} {E : XK} {wi : TI} {mi : MI} {g : TG} {mg : MG} {tb : TS} {mb : MS} (di : DenI K E wi mi) (dg : DenG K E g mg) (db : DenS K E tb mb) : DenS K E (tFor wi g tb) (sFor mi mg mb) := fun F B H ads cs σ ρ D w l h => by
  refine di F B H ads cs σ ρ _ w l (wpR_mono (wpR_bind h) (fun ts cs1 h1 B1 H1 ads1 J s1 p1 w1 wk => ?_) fun _ _ h => h)
  refine for_it wk (fun i σ' H' => ∃ B' ads' cs' ρ', Same B1 B' ∧ ads1 <+: ads' ∧ Wok K F B' H' ads' cs' ∧ OkL K B' ads' σ' ρ' ∧ wpR (forGo mg mb (ts.drop i) ρ' cs') (PostS K F B ads D) (PostE K F B ads E))
    ⟨B1, ads1, cs1, ρ, Same.refl _, List.prefix_refl _, w1, l.mono s1 p1, h1⟩ (fun i σ' H' _ ⟨B', _, _, _, s', _, w', _⟩ => s'.trans w'.same) ?_ ?_
  · rintro i x σ' H' H'' hi ⟨B', ads', cs', ρ', s', p', w', l', h'⟩ y
    obtain ⟨t, B2, ht, s2, w2, rt⟩ := y F B' ads' cs' s' w'
    have ed : ts.drop i = t :: ts.drop (i + 1) := by
      rw [List.drop_eq_getElem_cons hi]
      congr 1
      rw [List.getElem?_eq_getElem hi] at ht
      exact Option.some.inj ht
    rw [ed] at h'
    have sb : Same B B2 := (s1.trans s').trans s2
    have pb : ads <+: ads' := p1.trans p'
    refine dg F B2 H'' ads' cs' σ' ρ' x (.cl t) _ w2 (l'.mono s2 (List.prefix_refl _)) (.cl rt) (wpR_mono (wpR_bind h') (fun ρ3 cs3 h3 B3 H3 ads3 σ3 s3 p3 w3 l3 => ?_) fun _ _ h => h.mono sb pb)
    refine db F B3 H3 ads3 cs3 σ3 ρ3 _ w3 l3 (wpR_mono (wpR_bind h3) (fun f cs4 h4 B4 H4 ads4 s4 p4 w4 => ?_) fun _ _ h => h.mono (sb.trans s3) (pb.trans p3))
    have e14 : Same B1 B4 := ((s'.trans s2).trans s3).trans s4
    have q14 : ads1 <+: ads4 := (p'.trans p3).trans p4
    cases f with
    | nx ρ4 => exact fun σ4 l4 => ⟨B4, ads4, cs4, ρ4, e14, q14, w4, l4, h4⟩
    | ct ρ4 => exact fun σ4 l4 => ⟨B4, ads4, cs4, ρ4, e14, q14, w4, l4, h4⟩
    | bk ρ4 => exact fun σ4 l4 => h4 B4 H4 ads4 (s1.trans e14) (p1.trans q14) w4 σ4 l4
    | rt x4 => exact h4 B4 H4 ads4 (s1.trans e14) (p1.trans q14) w4
  · rintro σ' H' ⟨B', ads', cs', ρ', s', p', w', l', h'⟩
    rw [List.drop_length] at h'
    exact h' B' H' ads' (s1.trans s') (p1.trans p') w' σ' l'
theorem s_for {X : Cx} {E : XK} {tg iter : Expr} {body : List Stmt} {wi : TI} {mi : MI} {g : TG} {mg : MG} {tb : TS} {mb : MS} {pos : Pos} (hp : PassesOwn (model X.prog X.w) X.A X.env X.xe) (hc : X.calm = true) (hi : XI X E tg iter wi mi) (hg : XG X E tg g mg) (hb : XSs X E body tb mb)
    (hs : ∀ x, foldedSetIterable iter X.env x = pure x := by intro _; rfl) : XS X E (.For tg iter body [] pos) (tFor wi g tb) (sFor mi mg mb) := ⟨ps_for hp hc hi.pi hg.pg hb.ps hs, den_for hi.den hg.den hb.den⟩
/-! ### while, with fuel -/
def whGo (c : MB) (body : MS) : Nat → Loc → Cs → R Fl
  | 0, _, _ => .no
  | n + 1, ρ, cs => (c ρ cs).bind fun b cs1 => if b then (body ρ cs1).bind fun f cs2 => match f with
    | .nx ρ2 => whGo c body n ρ2 cs2
    | .ct ρ2 => whGo c body n ρ2 cs2
    | .bk ρ2 => .ok (.nx ρ2) cs2
    | .rt w => .ok (.rt w) cs2
    else .ok (.nx ρ) cs1
def sWhile (n : Nat) (c : MB) (body : MS) : MS := whGo c body n
theorem den_while {K : Fg} {E : XK} {n : Nat} {tc : TT} {mc : MB} {tb : TS} {mb : MS} (dc : DenT K E tc mc) (db : DenS K E tb mb) : DenS K E (tWhile tc tb) (sWhile n mc mb) := fun F B H ads cs σ ρ D w l h => by
  refine ⟨fun k σ' H' => ∃ B' ads' cs' ρ', Same B B' ∧ ads <+: ads' ∧ Wok K F B' H' ads' cs' ∧ OkL K B' ads' σ' ρ' ∧ wpR (whGo mc mb k ρ' cs') (PostS K F B ads D) (PostE K F B ads E), ⟨n, B, ads, cs, ρ, Same.refl _, List.prefix_refl _, w, l, h⟩, ?_⟩
  rintro k σ' H' ⟨B', ads', cs', ρ', s', p', w', l', h'⟩
  cases k with
  | zero => exact h'.elim
  | succ k =>
    refine dc F B' H' ads' cs' σ' ρ' _ w' l' (wpR_mono (wpR_bind h') (fun b cs1 h1 B1 H1 ads1 s1 p1 w1 => ?_) fun _ _ h => h.mono s' p')
    have sB := s'.trans s1
    have pB := p'.trans p1
    cases b with
    | false =>
      show D.nx σ' H1
      exact h1 B1 H1 ads1 sB pB w1 σ' (l'.mono s1 p1)
    | true =>
      dsimp only
      rw [if_pos rfl] at h1 ⊢
      refine ⟨fun σ2 H2 => ∃ B' ads' cs' ρ', Same B B' ∧ ads <+: ads' ∧ Wok K F B' H2 ads' cs' ∧ OkL K B' ads' σ2 ρ' ∧ wpR (whGo mc mb k ρ' cs') (PostS K F B ads D) (PostE K F B ads E), fun σ2 H2 q => ⟨k, Nat.lt_succ_self _, q⟩, ?_⟩
      refine db F B1 H1 ads1 cs1 σ' ρ' _ w1 (l'.mono s1 p1) (wpR_mono (wpR_bind h1) (fun f cs4 h4 B4 H4 ads4 s4 p4 w4 => ?_) fun _ _ h => h.mono sB pB)
      cases f with
      | nx ρ4 => exact fun σ4 l4 => ⟨B4, ads4, cs4, ρ4, sB.trans s4, pB.trans p4, w4, l4, h4⟩
      | ct ρ4 => exact fun σ4 l4 => ⟨B4, ads4, cs4, ρ4, sB.trans s4, pB.trans p4, w4, l4, h4⟩
      | bk ρ4 => exact fun σ4 l4 => h4 B4 H4 ads4 (sB.trans s4) (pB.trans p4) w4 σ4 l4
      | rt x4 => exact h4 B4 H4 ads4 (sB.trans s4) (pB.trans p4) w4
theorem s_while {X : Cx} {E : XK} (n : Nat) {c : Expr} {body : List Stmt} {tc : TT} {mc : MB} {tb : TS} {mb : MS} {pos : Pos} (hp : PassesOwn (model X.prog X.w) X.A X.env X.xe) (hc : XT X E c tc mc) (hb : XSs X E body tb mb) : XS X E (.While c body [] pos) (tWhile tc tb) (sWhile n mc mb) :=
  ⟨ps_while hp hc.pt hb.ps, den_while hc.den hb.den⟩
end G

/-! The tree layer, 8: comprehensions; methods of lists; calls of defs; what a def promises. -/
namespace G
open PySem L2 PyProof.Rows

/-! ### an object that a comprehension builds stands beside the world -/
section
variable {K : Fg} {F B H : Hp} {ads : List Addr} {cs : Cs} {D : Addr} {vo vo' : List V}
theorem Wok.foreign (w : Wok K F B H ads cs) (hD : H D = none) : Wok K (upd F D (.lst vo)) B (upd H D (.lst vo)) ads cs where
  same := w.same.trans (upd_same' hD)
  frm := fun b u q => by
    by_cases e : b = D
    · subst e; rw [upd_same] at q ⊢; exact q
    · rw [upd_ne e] at q ⊢; exact w.frm b u q
  dis := fun b u q => by
    by_cases e : b = D
    · subst e; exact .inl (w.same.free hD)
    · rw [upd_ne e] at q; exact w.dis b u q
  len := w.len
  nd := w.nd
  fr := fun a ha => by
    have : a ≠ D := fun e => w.notin hD (e ▸ ha)
    rw [upd_ne this]; exact w.fr a ha
  cell := fun i a c h1 h2 => (w.cell i a c h1 h2).mono (Same.refl _) (List.prefix_refl _) (fun n _ _ => n) fun u _ q => upd_same' hD a u q
theorem Wok.apart (w : Wok K (upd F D (.lst vo)) B H ads cs) : H D = some (.lst vo) ∧ B D = none ∧ D ∉ ads := by
  have e : (upd F D (.lst vo)) D = some (.lst vo) := upd_same
  refine ⟨w.frm _ _ e, (w.dis _ _ e).elim id (fun ⟨_, z⟩ => nomatch z), fun h => ?_⟩
  rw [w.fr D h] at e; cases e
theorem Wok.refor (w : Wok K (upd F D (.lst vo)) B H ads cs) : Wok K (upd F D (.lst vo')) B (upd H D (.lst vo')) ads cs := by
  obtain ⟨hH, hB, hA⟩ := w.apart
  refine ⟨fun b u q => ?_, fun b u q => ?_, fun b u q => ?_, w.len, w.nd, fun a ha => ?_, fun i a c h1 h2 => ?_⟩
  · have : b ≠ D := fun e => by rw [e, hB] at q; cases q
    rw [upd_ne this]; exact w.same b u q
  · by_cases e : b = D
    · subst e; rw [upd_same] at q ⊢; exact q
    · rw [upd_ne e] at q ⊢; exact w.frm b u (by rw [upd_ne e]; exact q)
  · by_cases e : b = D
    · subst e; exact .inl hB
    · rw [upd_ne e] at q; exact w.dis b u (by rw [upd_ne e]; exact q)
  · have e : a ≠ D := fun e => hA (e ▸ ha)
    have := w.fr a ha
    rw [upd_ne e] at this ⊢; exact this
  · have e : a ≠ D := fun e => hA (e ▸ List.mem_of_getElem? h1)
    exact (w.cell i a c h1 h2).mono (Same.refl _) (List.prefix_refl _) (fun n _ _ => n) fun u _ q => by rw [upd_ne e]; exact q
theorem Wok.adoptC (w : Wok K (upd F D (.lst vo)) B H ads cs) (hF : F D = none) : Wok K F (upd B D (.lst vo)) H ads cs := by
  obtain ⟨hH, hB, hA⟩ := w.apart
  refine ⟨fun b u q => ?_, fun b u q => ?_, fun b u q => ?_, w.len, w.nd, fun a ha => ?_, fun i a c h1 h2 => ?_⟩
  · by_cases e : b = D
    · subst e; rw [upd_same] at q; cases q; exact hH
    · rw [upd_ne e] at q; exact w.same b u q
  · have e : b ≠ D := fun e => by rw [e, hF] at q; cases q
    exact w.frm b u (by rw [upd_ne e]; exact q)
  · have e : b ≠ D := fun e => by rw [e, hF] at q; cases q
    rw [upd_ne e]; exact w.dis b u (by rw [upd_ne e]; exact q)
  · have e : a ≠ D := fun e => hA (e ▸ ha)
    have := w.fr a ha
    rw [upd_ne e] at this; exact this
  · have e : a ≠ D := fun e => hA (e ▸ List.mem_of_getElem? h1)
    exact (w.cell i a c h1 h2).mono (upd_same' hB) (List.prefix_refl _) (fun n _ _ => by rw [upd_ne e]; exact n) fun u _ q => q
theorem Wok.adoptP {vs : List V} {ws : List W} (w : Wok K (upd F D (.lst vs)) B H ads cs) (hF : F D = none) (r : RepWs K B ads vs ws) : Wok K F B H (ads ++ [D]) (cs ++ [.lst ws]) := by
  obtain ⟨hH, hB, hA⟩ := w.apart
  refine ⟨w.same, fun b u q => ?_, fun b u q => ?_, by simp [w.len], ?_, fun a ha => ?_, fun i a c h1 h2 => ?_⟩
  · have e : b ≠ D := fun e => by rw [e, hF] at q; cases q
    exact w.frm b u (by rw [upd_ne e]; exact q)
  · have e : b ≠ D := fun e => by rw [e, hF] at q; cases q
    exact w.dis b u (by rw [upd_ne e]; exact q)
  · rw [List.nodup_append]
    refine ⟨w.nd, by simp, fun a ha b hb => ?_⟩
    simp at hb; subst hb
    rintro rfl
    exact hA ha
  · rcases List.mem_append.mp ha with h | h
    · have e : a ≠ D := fun e => hA (e ▸ h)
      have := w.fr a h
      rw [upd_ne e] at this; exact this
    · simp at h; subst h; exact hF
  · by_cases hi : i < ads.length
    · rw [List.getElem?_append_left hi] at h1
      rw [List.getElem?_append_left (by rw [← w.len]; exact hi)] at h2
      exact (w.cell i a c h1 h2).mono (Same.refl _) (List.prefix_append _ _) (fun n _ _ => n) fun o _ q => q
    · have e : i = ads.length := by
        have := (List.getElem?_eq_some_iff.mp h1).1
        simp at this; omega
      subst e
      rw [List.getElem?_append_right (Nat.le_refl _)] at h1
      rw [List.getElem?_append_right (by rw [w.len]; exact Nat.le_refl _)] at h2
      simp at h1; subst h1
      simp [w.len] at h2; subst h2
      exact ⟨hB, vs, hH, r.mono (Same.refl _) (List.prefix_append _ _)⟩
end

/-! ### comprehensions -/
theorem wipe_get (σ : L2.St) : ∀ (vs : List Nat) (i : Nat), (wipe σ vs)[i]? = if i ∈ vs then (σ[i]?).map (fun _ => none) else σ[i]?
  | [], i => by simp [wipe]
  | v :: vs, i => by
    unfold wipe
    by_cases e : v = i
    · subst e
      simp only [List.mem_cons, true_or, if_true]
      rw [List.getElem?_set]
      simp only [if_true]
      rw [wipe_length]
      by_cases hv : v < σ.length
      · rw [if_pos hv, List.getElem?_eq_getElem hv]; rfl
      · rw [if_neg hv, List.getElem?_eq_none (by omega)]; rfl
    · rw [List.getElem?_set_ne e, wipe_get σ vs i]
      have e' : ¬ i = v := fun q => e q.symm
      simp [e']
theorem wipe_eq {σ τ : L2.St} {vs : List Nat} (h : ∀ i, i ∉ vs → σ[i]? = τ[i]?) (hl : σ.length = τ.length) : wipe σ vs = wipe τ vs := by
  apply List.ext_getElem?
  intro i
  rw [wipe_get, wipe_get]
  by_cases e : i ∈ vs
  · rw [if_pos e, if_pos e]
    by_cases hi : i < σ.length
    · rw [List.getElem?_eq_getElem hi, List.getElem?_eq_getElem (by omega)]; rfl
    · rw [List.getElem?_eq_none (by omega), List.getElem?_eq_none (by omega)]
  · rw [if_neg e, if_neg e, h i e]
theorem wipe_set {σ : L2.St} {vs : List Nat} {j : Nat} {x : Option V} (h : j ∈ vs) : wipe (σ.set j x) vs = wipe σ vs :=
  wipe_eq (fun i hi => List.getElem?_set_ne fun e => hi (by rw [← e]; exact h)) (by simp)
theorem wipe_wipe {σ : L2.St} {vs : List Nat} : wipe (wipe σ vs) vs = wipe σ vs :=
  wipe_eq (fun i hi => by rw [wipe_get, if_neg hi]) (wipe_length _ _)
/-- a target stores to the names vs alone -/
def Fr (vs : List Nat) (g : TG) : Prop := ∀ v σ H Q, g v σ H Q → g v σ H fun σ' H' => wipe σ' vs = wipe σ vs ∧ Q σ' H'
def Frs (vs : List Nat) (g : TGs) : Prop := ∀ v σ H Q, g v σ H Q → g v σ H fun σ' H' => wipe σ' vs = wipe σ vs ∧ Q σ' H'
theorem fr_name {vs : List Nat} {i : Nat} (h : i ∈ vs := by decide) : Fr vs (gName i) := fun v σ H Q q => ⟨wipe_set h, q⟩
theorem frs_nil {vs : List Nat} : Frs vs gNil := fun v σ H Q q => ⟨q.1, rfl, q.2⟩
theorem frs_cons {vs : List Nat} {t : TG} {u : TGs} (h : Fr vs t) (h' : Frs vs u) (mono : ∀ v σ H Q Q', (∀ σ' H', Q σ' H' → Q' σ' H') → t v σ H Q → t v σ H Q') (mono' : ∀ v σ H Q Q', (∀ σ' H', Q σ' H' → Q' σ' H') → u v σ H Q → u v σ H Q') : Frs vs (gCons t u) := fun v σ H Q q => by
  obtain ⟨x, r, e, q⟩ := q
  refine ⟨x, r, e, mono _ _ _ _ _ (fun σ' H' z => ?_) (h _ _ _ _ q)⟩
  exact mono' _ _ _ _ _ (fun σ2 H2 y => ⟨y.1.trans z.1, y.2⟩) (h' _ _ _ _ z.2)
theorem mono_name {i : Nat} : ∀ v σ H (Q Q' : L2.St → Hp → Prop), (∀ σ' H', Q σ' H' → Q' σ' H') → gName i v σ H Q → gName i v σ H Q' := fun v σ H Q Q' h q => h _ _ q
theorem mono_nil : ∀ v σ H (Q Q' : L2.St → Hp → Prop), (∀ σ' H', Q σ' H' → Q' σ' H') → gNil v σ H Q → gNil v σ H Q' := fun v σ H Q Q' h q => ⟨q.1, h _ _ q.2⟩
theorem mono_cons {t : TG} {u : TGs} (mono : ∀ v σ H (Q Q' : L2.St → Hp → Prop), (∀ σ' H', Q σ' H' → Q' σ' H') → t v σ H Q → t v σ H Q') (mono' : ∀ v σ H (Q Q' : L2.St → Hp → Prop), (∀ σ' H', Q σ' H' → Q' σ' H') → u v σ H Q → u v σ H Q') :
    ∀ v σ H (Q Q' : L2.St → Hp → Prop), (∀ σ' H', Q σ' H' → Q' σ' H') → gCons t u v σ H Q → gCons t u v σ H Q' := fun v σ H Q Q' h q => by
  obtain ⟨x, r, e, q⟩ := q
  exact ⟨x, r, e, mono _ _ _ _ _ (fun σ' H' z => mono' _ _ _ _ _ h z) q⟩
theorem mono_tup {K : PySem.W.Frag} {n : Nat} {u : TGs} (mono' : ∀ v σ H (Q Q' : L2.St → Hp → Prop), (∀ σ' H', Q σ' H' → Q' σ' H') → u v σ H Q → u v σ H Q') : ∀ v σ H (Q Q' : L2.St → Hp → Prop), (∀ σ' H', Q σ' H' → Q' σ' H') → gTup K n u v σ H Q → gTup K n u v σ H Q' := fun v σ H Q Q' h q => by
  obtain ⟨a, xs, e1, e2, e3, q⟩ := q
  exact ⟨a, xs, e1, e2, e3, mono' _ _ _ _ _ h q⟩
theorem fr_tup {K : PySem.W.Frag} {vs : List Nat} {n : Nat} {u : TGs} (h : Frs vs u) : Fr vs (gTup K n u) := fun v σ H Q q => by
  obtain ⟨a, xs, e1, e2, e3, q⟩ := q
  exact ⟨a, xs, e1, e2, e3, h _ _ _ _ q⟩

structure XP (X : Cx) (E : XK) (ifs : List Expr) (te : TT) (m : MB) : Prop where
  pt : PTs X ifs te
  den : DenT (fx X) E te m
def mYes : MB := fun _ cs => .ok true cs
theorem xp_nil {X : Cx} {E : XK} : XP X E [] tYes mYes := ⟨pts_nil, fun F B H ads cs σ ρ Q w l h => h B H ads (Same.refl _) (List.prefix_refl _) w⟩
theorem xp_one {X : Cx} {E : XK} {c : Expr} {t : TT} {m : MB} (h : XT X E c t m) : XP X E [c] t m := ⟨pts_one h.pt, h.den⟩

def R.noEx {α : Type} : R α → R α
  | .ex _ _ => .no
  | r => r
theorem wpR_noEx {α : Type} {r : R α} {Φ : α → Cs → Prop} {Ψ Ψ' : Ex → Cs → Prop} (h : wpR r.noEx Φ Ψ) : wpR r Φ Ψ' := by
  cases r with
  | no => exact h
  | ok a cs => exact h
  | ex e cs => exact h.elim
theorem wpR_join {α β : Type} {r : R α} {k : α → Cs → R β} {Φ : β → Cs → Prop} {Ψ : Ex → Cs → Prop} (h : wpR r (fun a cs => wpR (k a cs) Φ Ψ) Ψ) : wpR (r.bind k) Φ Ψ := by
  cases r <;> exact h
def lcGo (mg : MG) (mt : MB) (me : ME) (ρ : Loc) : List T → List W → Cs → R (List W)
  | [], acc, cs => .ok acc cs
  | t :: ts, acc, cs => (mg (.cl t) ρ cs).noEx.bind fun ρ1 cs1 => (mt ρ1 cs1).noEx.bind fun b cs2 => if b then (me ρ1 cs2).noEx.bind fun w cs3 => if acc.length < LIM then lcGo mg mt me ρ ts (acc ++ [w]) cs3 else .no
    else lcGo mg mt me ρ ts acc cs2
def mLc (b : Bool) (vs : List Nat) (mi : MI) (mg : MG) (mt : MB) (me : ME) : ME := fun ρ cs => (mi ρ cs).bind fun ts cs1 => (lcGo mg mt me (wipeL ρ vs) ts [] cs1).bind fun ws cs2 => newL b ws cs2
theorem adopt_fin {K : Fg} {F B H : Hp} {ads : List Addr} {cs : Cs} {D : Addr} {vs : List V} {ws : List W} {b : Bool} {Q : VK} {E : XK} (w : Wok K (upd F D (.lst vs)) B H ads cs) (hF : F D = none) (r : RepWs K B ads vs ws) (h : wpR (newL b ws cs) (PostV K F B ads Q) (PostE K F B ads E)) : Q (.ref D) H := by
  unfold newL at h
  cases b with
  | true =>
    rw [if_pos rfl] at h
    refine h B H (ads ++ [D]) _ (Same.refl _) (List.prefix_append _ _) (w.adoptP hF r) (.pt ?_)
    rw [← w.len, List.getElem?_append_right (Nat.le_refl _)]
    simp
  | false =>
    rw [if_neg Bool.false_ne_true] at h
    cases e : frzs (frz 8) ws cs with
    | none => rw [e] at h; exact h.elim
    | some q =>
      obtain ⟨ts, cs'⟩ := q
      rw [e] at h
      obtain ⟨B', s, w', q, _⟩ := frzs_ok (frz_ok (K := K) 8) w r e
      have bD : B' D = none := w'.apart.2.1
      exact h (upd B' D (.lst vs)) H ads _ (s.trans (upd_same' bD)) (List.prefix_refl _) (w'.adoptC hF) (.cl (.lst upd_same (q.mono (upd_same' bD))))
theorem den_lc {K : Fg} {E E1 E2 E3 : XK} {b : Bool} {wi : TI} {mi : MI} {g : TG} {mg : MG} {tt : TT} {mt : MB} {te : TE} {me : ME} {vs : List Nat} (di : DenI K E wi mi) (dg : DenG K E1 g mg) (fr : Fr vs g) (dt : DenT K E2 tt mt) (de : DenE K E3 te me) :
    DenE K E (tLc wi g tt te vs) (mLc b vs mi mg mt me) := fun F B H ads cs σ ρ Q w l h => by
  refine di F B H ads cs σ ρ _ w l (wpR_mono (wpR_bind h) (fun ts cs1 h1 B1 H1 ads1 J s1 p1 w1 wk => ?_) fun _ _ h => h)
  intro D hD
  have fD : F D = none := w1.frm.free hD
  refine lc_it wk (fun i H' => ∃ B' ads' cs' acc vacc, Same B1 B' ∧ ads1 <+: ads' ∧ Wok K (upd F D (.lst vacc)) B' H' ads' cs' ∧ RepWs K B' ads' vacc acc ∧
      wpR ((lcGo mg mt me (wipeL ρ vs) (ts.drop i) acc cs').bind fun ws cs2 => newL b ws cs2) (PostV K F B ads Q) (PostE K F B ads E))
    ⟨B1, ads1, cs1, [], [], Same.refl _, List.prefix_refl _, w1.foreign hD, .nil, h1⟩ (fun i H' _ ⟨B', _, _, _, _, s', _, w', _⟩ => s'.trans w'.same) ?_ ?_
  · rintro i x H' H'' hi ⟨B', ads', cs', acc, vacc, s', p', w', ra, h'⟩ y
    obtain ⟨t, B2, ht, s2, w2, rt⟩ := y _ B' ads' cs' s' w'
    have ed : ts.drop i = t :: ts.drop (i + 1) := by
      rw [List.drop_eq_getElem_cons hi]
      congr 1
      rw [List.getElem?_eq_getElem hi] at ht
      exact Option.some.inj ht
    rw [ed] at h'
    have sb : Same B B2 := (s1.trans s').trans s2
    have pb : ads <+: ads' := p1.trans p'
    have hh := wpR_bind h'
    have g0 : g x (wipe σ vs) H'' fun σ2 H2 => (tt σ2 H2 fun bb H3 => if bb = true then te σ2 H3 fun y H4 => ∃ acc, H4 D = some (.lst acc) ∧ acc.length < sizeLine ∧
        (fun i H' => ∃ B' ads' cs' acc vacc, Same B1 B' ∧ ads1 <+: ads' ∧ Wok K (upd F D (.lst vacc)) B' H' ads' cs' ∧ RepWs K B' ads' vacc acc ∧
      wpR ((lcGo mg mt me (wipeL ρ vs) (ts.drop i) acc cs').bind fun ws cs2 => newL b ws cs2) (PostV K F B ads Q) (PostE K F B ads E)) (i + 1) (upd H4 D (.lst (acc ++ [y])))
        else (fun i H' => ∃ B' ads' cs' acc vacc, Same B1 B' ∧ ads1 <+: ads' ∧ Wok K (upd F D (.lst vacc)) B' H' ads' cs' ∧ RepWs K B' ads' vacc acc ∧
      wpR ((lcGo mg mt me (wipeL ρ vs) (ts.drop i) acc cs').bind fun ws cs2 => newL b ws cs2) (PostV K F B ads Q) (PostE K F B ads E)) (i + 1) H3) := by
      refine dg _ B2 H'' ads' cs' (wipe σ vs) (wipeL ρ vs) x (.cl t) _ w2 (((l.mono sb pb)).wipe vs) (.cl rt) (wpR_noEx (Ψ := fun _ _ => True) (wpR_mono (wpR_bind hh) (fun ρ3 cs3 h3 B3 H3 ads3 σ3 s3 p3 w3 l3 => ?_) fun _ _ _ => trivial))
      refine dt _ B3 H3 ads3 cs3 σ3 ρ3 _ w3 l3 (wpR_noEx (Ψ := fun _ _ => True) (wpR_mono (wpR_bind h3) (fun bb cs4 h4 B4 H4 ads4 s4 p4 w4 => ?_) fun _ _ _ => trivial))
      have e24 : Same B1 B4 := ((s'.trans s2).trans s3).trans s4
      have q24 : ads1 <+: ads4 := (p'.trans p3).trans p4
      cases bb with
      | false => exact ⟨B4, ads4, cs4, acc, vacc, e24, q24, w4, ra.mono ((s2.trans s3).trans s4) (p3.trans p4), wpR_join h4⟩
      | true =>
        refine de _ B4 H4 ads4 cs4 σ3 ρ3 _ w4 (l3.mono s4 p4) (wpR_noEx (Ψ := fun _ _ => True) (wpR_mono (wpR_bind h4) (fun z cs5 h5 B5 H5 ads5 v5 s5 p5 w5 r5 => ?_) fun _ _ _ => trivial))
        split at h5
        · rename_i hlt
          obtain ⟨hH, hB, hA⟩ := w5.apart
          have ra5 := ra.mono (((s2.trans s3).trans s4).trans s5) ((p3.trans p4).trans p5)
          refine ⟨vacc, hH, by rw [ra5.length]; exact Nat.lt_trans hlt lim_line, B5, ads5, cs5, acc ++ [z], vacc ++ [v5], e24.trans s5, q24.trans p5, w5.refor, ra5.append (.cons r5 .nil), wpR_join h5⟩
        · exact h5.elim
    have g1 := fr _ _ _ _ g0
    rw [wipe_wipe] at g1
    exact g1
  · rintro H' ⟨B', ads', cs', acc, vacc, s', p', w', ra, h'⟩
    rw [List.drop_length] at h'
    have h2 : wpR (newL b acc cs') (PostV K F B ads Q) (PostE K F B ads E) := h'
    exact adopt_fin w' fD ra (wpR_mono h2 (fun _ _ h => h.mono (s1.trans s') (p1.trans p')) fun _ _ h => h.mono (s1.trans s') (p1.trans p'))

section
variable {X : Cx} {E : XK} {elt tg iter : Expr} {ifs : List Expr} {scope : Scope} {own : List (Str × Nat)} {pos : Pos} {wi : TI} {mi : MI} {g : TG} {mg : MG} {tt : TT} {mt : MB} {te : TE} {me : ME}
abbrev E0x : XK := fun _ _ _ => False
theorem x_lc (b : Bool) (hc : X.calm = true) (hN : X.N.Nodup) (hi : XI X E tg iter wi mi) (ok : BlkOk X.N X.env.scope scope own)
    (hg : ∀ (s : Shared) (H : Hp) (C : Addr) (cl : List (Str × Addr)) (fp : List Addr), XG (X.blk s H scope (compEnvC scope cl C X.env) fp) E0x tg g mg) (fr : Fr (own.map (·.2)) g)
    (ht : ∀ (s : Shared) (H : Hp) (C : Addr) (cl : List (Str × Addr)) (fp : List Addr), XP (X.blk s H scope (compEnvC scope cl C X.env) fp) E0x ifs tt mt)
    (he : ∀ (s : Shared) (H : Hp) (C : Addr) (cl : List (Str × Addr)) (fp : List Addr), XE (X.blk s H scope (compEnvC scope cl C X.env) fp) E0x elt te me) (hs : ∀ x, foldedSetIterable iter X.env x = pure x := by intro _; rfl) :
    XE X E (.ListComp elt [⟨tg, iter, ifs, 0⟩] scope pos) (tLc wi g tt te (own.map (·.2))) (mLc b (own.map (·.2)) mi mg mt me) :=
  ⟨pe_lc hc hN hi.pi ok (fun s H C cl fp => (hg s H C cl fp).pg) (fun s H C cl fp => (ht s H C cl fp).pt) (fun s H C cl fp => (he s H C cl fp).pe) hs,
   den_lc hi.den (hg {} (fun _ => none) 0 [] []).den fr (ht {} (fun _ => none) 0 [] []).den (he {} (fun _ => none) 0 [] []).den⟩
theorem s_setLc (b : Bool) {i : Nat} {y : Str} {py spos : Pos} (hc : X.calm = true) (hN : X.N.Nodup) (hi : XI X E tg iter wi mi) (ok : BlkOk X.N X.env.scope scope own)
    (hg : ∀ (s : Shared) (H : Hp) (C : Addr) (cl : List (Str × Addr)) (fp : List Addr), XG (X.blk s H scope (compEnvC scope cl C X.env) fp) E0x tg g mg) (fr : Fr (own.map (·.2)) g)
    (ht : ∀ (s : Shared) (H : Hp) (C : Addr) (cl : List (Str × Addr)) (fp : List Addr), XP (X.blk s H scope (compEnvC scope cl C X.env) fp) E0x ifs tt mt)
    (he : ∀ (s : Shared) (H : Hp) (C : Addr) (cl : List (Str × Addr)) (fp : List Addr), XE (X.blk s H scope (compEnvC scope cl C X.env) fp) E0x elt te me)
    (hsw : swapsWith (.ListComp elt [⟨tg, iter, ifs, 0⟩] scope pos) (some (.Name y py)) spos.line X.env = pure true) (hy : X.N[i]? = some y := by rfl) (hyl : X.env.scope.names.lookup y = some .local := by rfl) (hs : ∀ x, foldedSetIterable iter X.env x = pure x := by intro _; rfl) :
    XS X E (.Assign [.Name y py] (.ListComp elt [⟨tg, iter, ifs, 0⟩] scope pos) spos) (tAsg (tLc wi g tt te (own.map (·.2))) (gName i)) (sAsg (mLc b (own.map (·.2)) mi mg mt me) (mgName i)) :=
  ⟨ps_setLc hc hN hy hyl hsw hi.pi ok (fun s H C cl fp => (hg s H C cl fp).pg) (fun s H C cl fp => (ht s H C cl fp).pt) (fun s H C cl fp => (he s H C cl fp).pe) hs,
   den_asg (den_lc hi.den (hg {} (fun _ => none) 0 [] []).den fr (ht {} (fun _ => none) 0 [] []).den (he {} (fun _ => none) 0 [] []).den) den_gName⟩
end

/-! ### methods of lists -/
def DenM (K : Fg) (r : V → List V → Hp → VK → Prop) (f : W → List W → Cs → R W) : Prop := ∀ (E : XK) F B H ads cs x v xs vs Q, Wok K F B H ads cs → RepW K B ads x v → RepWs K B ads xs vs → wpR (f v vs cs) (PostV K F B ads Q) (PostE K F B ads E) → r x xs H Q
/-- a dict -/
def isDct (cs : Cs) : W → Bool
  | .cl (.dK _ _) => true
  | .cl (.dT _ _) => true
  | .pt i => match cs[i]? with
    | some (.dK _ _) => true
    | some (.dT _ _) => true
    | some (.fz (.dK _ _)) => true
    | some (.fz (.dT _ _)) => true
    | _ => false
  | _ => false
theorem isDct_ok {K : Fg} {F B H : Hp} {ads : List Addr} {cs : Cs} {v : V} {x : W} (w : Wok K F B H ads cs) (r : RepW K B ads v x) (h : isDct cs x = true) : ∃ a, v = .ref a ∧ ((∃ kvs, H a = some (.dK kvs)) ∨ ∃ kvs, H a = some (.dT kvs)) := by
  unfold isDct at h
  split at h
  · cases r with | cl r => cases r with | dK a l b => exact ⟨_, rfl, .inl ⟨_, w.same _ _ a⟩⟩
  · cases r with | cl r => cases r with | dT a l b => exact ⟨_, rfl, .inr ⟨_, w.same _ _ a⟩⟩
  · cases r with
    | pt ha =>
      split at h
      · rename_i e
        obtain ⟨_, vs, q, _⟩ := w.cell _ _ _ ha e
        exact ⟨_, rfl, .inl ⟨_, q⟩⟩
      · rename_i e
        obtain ⟨_, vs, q, _⟩ := w.cell _ _ _ ha e
        exact ⟨_, rfl, .inr ⟨_, q⟩⟩
      · rename_i e
        obtain ⟨_, rr⟩ := w.cell _ _ _ ha e
        cases rr with | dK a l b => exact ⟨_, rfl, .inl ⟨_, w.same _ _ a⟩⟩
      · rename_i e
        obtain ⟨_, rr⟩ := w.cell _ _ _ ha e
        cases rr with | dT a l b => exact ⟨_, rfl, .inr ⟨_, w.same _ _ a⟩⟩
      · cases h
  · cases h
/-- the value is of that built-in type -/
def isTy (T : String) (cs : Cs) (x : W) : Bool := if T = "list" then (seqS cs x).isSome else if T = "str" then (match x with | .cl (.str _) => true | _ => false) else if T = "dict" then isDct cs x else false
theorem isTy_ok {K : Fg} {F B H : Hp} {ads : List Addr} {cs : Cs} {v : V} {x : W} {T : String} (w : Wok K F B H ads cs) (r : RepW K B ads v x) (h : isTy T cs x = true) : tyV K T v H := by
  unfold isTy at h
  split at h
  · rename_i e
    subst e
    cases e : seqS cs x with
    | none => rw [e] at h; cases h
    | some ws =>
      obtain ⟨a, vs, rfl, q, _⟩ := seqS_ok w r e
      exact .inl ⟨rfl, vs, q⟩
  · split at h
    · rename_i e
      subst e
      split at h
      · cases rw_str r; exact rfl
      · cases h
    · split at h
      · rename_i e
        subst e
        obtain ⟨a, rfl, q⟩ := isDct_ok w r h
        exact .inr (.inr (.inl ⟨rfl, q⟩))
      · cases h
def mBM (T : String) (f : W → List W → Cs → R W) (a : ME) (m : MA) : ME := fun ρ cs => (a ρ cs).bind fun x cs1 => if isTy T cs1 x then (m ρ cs1).bind fun xs cs2 => f x xs cs2 else .no
def mBM0 (T : String) (f : W → List W → Cs → R W) (a : ME) : ME := fun ρ cs => (a ρ cs).bind fun x cs1 => if isTy T cs1 x then f x [] cs1 else .no
section
variable {K : Fg} {E : XK} {T : String} {r : V → List V → Hp → VK → Prop} {f : W → List W → Cs → R W} {to : TE} {t : TA} {a : ME} {m : MA}
theorem den_bm (da : DenE K E to a) (d : DenA K E t m) (dr : DenM K r f) : DenE K E (tBM K T r to t) (mBM T f a m) := fun F B H ads cs σ ρ Q w l h => by
  refine da F B H ads cs σ ρ _ w l (wpR_mono (wpR_bind h) (fun x cs1 h1 B1 H1 ads1 v s1 p1 w1 r1 => ?_) fun _ _ h => h)
  split at h1
  · rename_i ty
    refine ⟨isTy_ok w1 r1 ty, ?_⟩
    refine d F B1 H1 ads1 cs1 σ ρ _ w1 (l.mono s1 p1) (wpR_mono (wpR_bind h1) (fun xs cs2 h2 B2 H2 ads2 vs s2 p2 w2 r2 => ?_) fun _ _ h => h.mono s1 p1)
    exact dr E F B2 H2 ads2 cs2 v x vs xs Q w2 (r1.mono s2 p2) r2 (wpR_mono h2 (fun _ _ h => h.mono (s1.trans s2) (p1.trans p2)) fun _ _ h => h.mono (s1.trans s2) (p1.trans p2))
  · exact h1.elim
theorem den_bm0 (da : DenE K E to a) (dr : DenM K r f) : DenE K E (tBM0 K T r to) (mBM0 T f a) := fun F B H ads cs σ ρ Q w l h => by
  refine da F B H ads cs σ ρ _ w l (wpR_mono (wpR_bind h) (fun x cs1 h1 B1 H1 ads1 v s1 p1 w1 r1 => ?_) fun _ _ h => h)
  split at h1
  · rename_i ty
    exact ⟨isTy_ok w1 r1 ty, dr E F B1 H1 ads1 cs1 v x [] [] Q w1 r1 .nil (wpR_mono h1 (fun _ _ h => h.mono s1 p1) fun _ _ h => h.mono s1 p1)⟩
  · exact h1.elim
end
structure XM (X : Cx) (T id : String) (name : Str) (r : V → List V → Hp → VK → Prop) (f : W → List W → Cs → R W) : Prop where
  pa : PlainAttrs T
  slot : Slot T name id
  ty : typeOf (.builtin id) = pure (.type "method_descriptor")
  mt : MtR X id r
  den : DenM (fx X) r f
section
variable {X : Cx} {E : XK} {o e : Expr} {es : List Expr} {to : TE} {t : TA} {a : ME} {m : MA} {name : Str} {apos cpos : Pos} {T id : String} {r : V → List V → Hp → VK → Prop} {f : W → List W → Cs → R W}
theorem x_bm (M : XM X T id name r f) (ho : XE X E o to a) (ha : XA X E (e :: es) t m)
    (hbase : attributeBase o name X.env (eval o X.env) = eval o X.env := by rfl)
    (hfew : ((backTo cpos (starEach (e :: es) X.env)).all (fun x => !x.1) && (backToKw cpos (keywordEach [] X.env)).all (fun x => x.1.isSome)
      && decide ((e :: es).length + ([] : List Keyword).length + (if ([] : List Keyword).isEmpty then 0 else 1) < 30)) = true := by rfl)
    (hline : (apos.endLine == cpos.line) = true := by rfl) (hs : starEach (e :: es) X.env = (false, eval e X.env) :: starEach es X.env := by rfl) (hplain : (backTo cpos (starEach es X.env)).any (·.1) = false := by rfl) :
    XE X E (.Call (.Attribute o name apos) (e :: es) [] cpos) (tBM X.K T r to t) (mBM T f a m) := ⟨pe_bm M.pa M.slot M.ty M.mt ho.pe ha.pa hbase hfew hline hs hplain, den_bm ho.den ha.den M.den⟩
theorem x_bm0 (M : XM X T id name r f) (ho : XE X E o to a) (hbase : attributeBase o name X.env (eval o X.env) = eval o X.env := by rfl) (hline : (apos.endLine == cpos.line) = true := by rfl) :
    XE X E (.Call (.Attribute o name apos) [] [] cpos) (tBM0 X.K T r to) (mBM0 T f a) := ⟨pe_bm0 M.pa M.slot M.ty M.mt ho.pe hbase hline, den_bm0 ho.den M.den⟩
/-- the items of an owned list -/
def ownL (cs : Cs) : W → Option (Nat × List W)
  | .pt i => match cs[i]? with
    | some (.lst ws) => some (i, ws)
    | _ => none
  | _ => none
theorem ownL_ok {K : Fg} {F B H : Hp} {ads : List Addr} {cs : Cs} {v : V} {x : W} (w : Wok K F B H ads cs) (r : RepW K B ads v x) {i : Nat} {ws : List W} (h : ownL cs x = some (i, ws)) :
    ∃ a vs, v = .ref a ∧ ads[i]? = some a ∧ B a = none ∧ H a = some (.lst vs) ∧ RepWs K B ads vs ws := by
  unfold ownL at h
  split at h
  · split at h
    · rename_i e
      cases h
      cases r with
      | pt ha =>
        obtain ⟨hb, vs, hv, rr⟩ := w.cell _ _ _ ha e
        exact ⟨_, vs, rfl, ha, hb, hv, rr⟩
    · cases h
  · cases h
theorem putL {K : Fg} {F B H : Hp} {ads : List Addr} {cs : Cs} {i : Nat} {a : Addr} {vs : List V} {ws : List W} (w : Wok K F B H ads cs) (ha : ads[i]? = some a) (hb : B a = none) (r : RepWs K B ads vs ws) : Wok K F B (upd H a (.lst vs)) ads (cs.set i (.lst ws)) := w.put ha hb ⟨hb, vs, upd_same, r⟩
def fAppend : W → List W → Cs → R W := fun x ys cs => match ownL cs x, ys with
  | some (i, ws), [y] => if ws.length < LIM then .ok (.cl .non) (cs.set i (.lst (ws ++ [y]))) else .no
  | _, _ => .no
theorem m_append : XM X "list" "list.append" "append" rAppend fAppend := ⟨PySem.F.plainAttrs_list, PySem.F.slot_list_append, PySem.F.type_list_append, mt_append, fun E F B H ads cs x v xs vs Q w r rs h => by
  unfold fAppend at h
  split at h
  · rename_i i ws y hx
    split at h
    · rename_i hl
      obtain ⟨a, us, rfl, ha, hb, hv, rr⟩ := ownL_ok w r hx
      cases rs with | cons r1 r2 =>
        cases r2
        exact ⟨a, us, _, rfl, rfl, hv, by rw [rr.length]; exact Nat.lt_trans hl lim_line, h B _ ads _ (Same.refl _) (List.prefix_refl _) (putL w ha hb (rr.append (.cons r1 .nil))) (.cl .non)⟩
    · exact h.elim
  · exact h.elim⟩
/-- l.pop(i) -/
def fPop : W → List W → Cs → R W := fun x ys cs => match ownL cs x, ys with
  | some (i, ws), [.cl (.int k)] => if inB 1000000 k = true then match ixN ws.length k with
    | some j => match ws[j]? with
      | some y => .ok y (cs.set i (.lst (ws.eraseIdx j)))
      | none => .no
    | none => .no else .no
  | _, _ => .no
theorem m_popAt : XM X "list" "list.pop" "pop" rPopAt fPop := ⟨PySem.F.plainAttrs_list, PySem.F.slot_list_pop, PySem.F.type_list_pop, mt_popAt, fun E F B H ads cs x v xs vs Q w r rs h => by
  unfold fPop at h
  split at h
  · rename_i i ws k hx
    split at h
    · rename_i hk
      have hk := inB_ok hk
      split at h
      · rename_i j hj
        split at h
        · rename_i y hy
          obtain ⟨a, us, rfl, ha, hb, hv, rr⟩ := ownL_ok w r hx
          obtain ⟨v, h1, h2⟩ := rr.get hy
          obtain ⟨q1, q2, q3, q4⟩ := ixN_seq hj
          cases rs with | cons r1 r2 =>
            cases r2
            cases rw_int r1
            exact ⟨a, us, k, j, v, rfl, rfl, hv, by omega, by omega, by rw [rr.length]; exact q1, h1, h B _ ads _ (Same.refl _) (List.prefix_refl _) (putL w ha hb (rr.eraseIdx j)) h2⟩
        · exact h.elim
      · exact h.elim
    · exact h.elim
  · exact h.elim⟩
/-- l.pop() -/
def fPop0 : W → List W → Cs → R W := fun x ys cs => match ownL cs x, ys with
  | some (i, ws), [] => match ws[ws.length - 1]? with
    | some y => .ok y (cs.set i (.lst ws.dropLast))
    | none => .no
  | _, _ => .no
theorem m_pop : XM X "list" "list.pop" "pop" rPop fPop0 := ⟨PySem.F.plainAttrs_list, PySem.F.slot_list_pop, PySem.F.type_list_pop, mt_pop, fun E F B H ads cs x v xs vs Q w r rs h => by
  unfold fPop0 at h
  split at h
  · rename_i i ws hx
    split at h
    · rename_i y hy
      obtain ⟨a, us, rfl, ha, hb, hv, rr⟩ := ownL_ok w r hx
      obtain ⟨v, h1, h2⟩ := rr.get hy
      cases rs
      exact ⟨a, us, v, rfl, rfl, hv, by rw [rr.length]; exact h1, h B _ ads _ (Same.refl _) (List.prefix_refl _) (putL w ha hb rr.dropLast) h2⟩
    · exact h.elim
  · exact h.elim⟩
end
end G

/-! The tree layer, 9: isinstance, sorted, calls of defs, what a def promises. -/
namespace G
open PySem L2 PyProof.Rows

/-! ### isinstance of built-in classes -/
def isiTab : List (String × String × Bool) :=
  [("NoneType", "list", false), ("NoneType", "tuple", false), ("NoneType", "int", false), ("NoneType", "bool", false), ("NoneType", "str", false), ("NoneType", "dict", false),
   ("bool", "list", false), ("bool", "tuple", false), ("bool", "int", true), ("bool", "bool", true), ("bool", "str", false), ("bool", "dict", false),
   ("int", "list", false), ("int", "tuple", false), ("int", "int", true), ("int", "bool", false), ("int", "str", false), ("int", "dict", false),
   ("str", "list", false), ("str", "tuple", false), ("str", "int", false), ("str", "bool", false), ("str", "str", true), ("str", "dict", false),
   ("tuple", "list", false), ("tuple", "tuple", true), ("tuple", "int", false), ("tuple", "bool", false), ("tuple", "str", false), ("tuple", "dict", false),
   ("list", "list", true), ("list", "tuple", false), ("list", "int", false), ("list", "bool", false), ("list", "str", false), ("list", "dict", false)]
def isiB (a b : String) : Option Bool := (isiTab.find? fun e => e.1 == a && e.2.1 == b).map (·.2.2)
theorem isiTab_ok : ∀ e ∈ isiTab, kitB e.1 e.2.1 = some e.2.2 := by decide +kernel
theorem isiB_ok {a b : String} {r : Bool} (h : isiB a b = some r) : kitB a b = some r := by
  unfold isiB at h
  cases e : isiTab.find? fun e => e.1 == a && e.2.1 == b with
  | none => rw [e] at h; cases h
  | some t =>
    rw [e] at h
    cases h
    have hm := List.mem_of_find?_eq_some e
    have hp := List.find?_some e
    simp only [Bool.and_eq_true, beq_iff_eq] at hp
    rw [← hp.1, ← hp.2]
    exact isiTab_ok t hm
/-- the built-in class of a value -/
def tyN (cs : Cs) : W → Option String
  | .cl .non => some "NoneType"
  | .cl (.bl _) => some "bool"
  | .cl (.int _) => some "int"
  | .cl (.str _) => some "str"
  | .cl (.tup _) => some "tuple"
  | x => (seqS cs x).map fun _ => "list"
theorem tyN_ok {K : Fg} {F B H : Hp} {ads : List Addr} {cs : Cs} {v : V} {x : W} (w : Wok K F B H ads cs) (r : RepW K B ads v x) {n : String} (h : tyN cs x = some n) : TyX K H v (.type n) := by
  unfold tyN at h
  split at h
  · cases h; cases rw_non r; exact .base .non
  · cases h; cases rw_bl r; exact .base (.bl _)
  · cases h; cases rw_int r; exact .base (.int _)
  · cases h; cases rw_str r; exact .base (.str _)
  · cases h
    obtain ⟨a, vs, rfl, q, _⟩ := seqT_ok w r rfl
    rcases q with (q | ⟨o, q⟩) | ⟨o, its, n, q, c, _⟩
    · exact .base (.tup q)
    · exact .fTuple q
    · exact .kTuple q c
  · cases e : seqS cs x with
    | none => rw [e] at h; cases h
    | some ws =>
      rw [e] at h; cases h
      obtain ⟨a, vs, rfl, q, _⟩ := seqS_ok w r e
      rcases q with (q | ⟨o, q⟩) | ⟨o, its, n, q, c, _⟩
      · exact .base (.lst q)
      · exact .base (.frz q)
      · exact .kList q c
section
variable {X : Cx}
def fIsi : List W → Cs → R W := fun ws cs => match ws with
  | [x, .cl (.ty n)] => match tyN cs x with
    | some a => match isiB a n with
      | some b => .ok (.cl (.bl b)) cs
      | none => .no
    | none => .no
  | _ => .no
theorem c_isi : XC X (.builtin "isinstance") (rIsi X.K) fIsi := ⟨call_isi, fun E F B H ads cs xs vs Q w r h => by
  unfold fIsi at h
  split at h
  · split at h
    · rename_i a ha
      split at h
      · rename_i b hb
        cases r with | cons r1 r2 =>
          cases r2 with | cons r2 r3 =>
            cases r3
            cases r2 with | cl r2 => cases r2; exact ⟨_, _, _, _, b, rfl, .ty _, tyN_ok w r1 ha, kit_ty (isiB_ok hb), PostV.cl w (.bl _) h⟩
      · exact h.elim
    · exact h.elim
  · exact h.elim⟩
/-- isinstance(e, (S, T)), S and T built-in -/
def mIsi2 (a b : String) (m : ME) : ME := fun ρ cs => (m ρ cs).bind fun x cs1 => match tyN cs1 x with
  | some n => match isiB n a, isiB n b with
    | some p, some q => .ok (.cl (.bl (p || q))) cs1
    | _, _ => .no
  | none => .no
theorem den_isi2 {K : Fg} {E : XK} {a b : String} {te : TE} {m : ME} (d : DenE K E te m) : DenE K E (tCB (rIsiT K) (tCons te (tCons (tTup (tCons (tC (.ty a)) (tCons (tC (.ty b)) tNil))) tNil))) (mIsi2 a b m) := fun F B H ads cs σ ρ Q w l h => by
  refine d F B H ads cs σ ρ _ w l (wpR_mono (wpR_bind h) (fun x cs1 h1 B1 H1 ads1 v s1 p1 w1 r1 => ?_) fun _ _ h => h)
  split at h1
  · rename_i n hn
    split at h1
    · rename_i p q hp hq
      refine ⟨by show 2 ≤ sizeLine; decide, fun t ht => ?_⟩
      have w2 := w1.any (.tup [.ty a, .ty b]) ht
      refine ⟨v, t, [.ty a, .ty b], _, [.type a, .type b], p || q, rfl, upd_same, .cons (.ty _) (.cons (.ty _) .nil), tyN_ok w2 r1 hn, ?_, ?_⟩
      · refine kitAny_cons (kit_ty (isiB_ok hp)) (fun hp0 => ?_) (fun hp1 => by rw [hp1]; rfl)
        refine kitAny_cons (r := p || q) (kit_ty (isiB_ok hq)) (fun hq0 => ?_) (fun hq1 => by rw [hq1, Bool.or_true])
        rw [hp0, hq0]
        exact kitAny_nil
      · exact h1 B1 _ ads1 _ s1 p1 w2 (.cl (.bl _))
    · exact h1.elim
  · exact h1.elim
theorem x_isi2 {E : XK} {e : Expr} {te : TE} {m : ME} {y z : Str} {a b : String} {p1 p2 p3 p4 pos : Pos} {kt : Nat} (hg : Gl X "isinstance") (hm : X.mg "isinstance" = none) (he : XE X E e te m)
    (hga : Gl X y) (hma : X.mg y = none) (hva : bootBuiltins y = some (.type a)) (hgb : Gl X z) (hmb : X.mg z = none) (hvb : bootBuiltins z = some (.type b))
    (hna : y ≠ "__name__" := by decide) (hda : (y == ("__debug__" : Str)) = false := by decide) (hnb : z ≠ "__name__" := by decide) (hdb : (z == ("__debug__" : Str)) = false := by decide)
    (h1 : starEach [e, .Tuple [.Name y p2, .Name z p3] kt p4] X.env = (false, eval e X.env) :: starEach [.Tuple [.Name y p2, .Name z p3] kt p4] X.env := by rfl)
    (hv : bootBuiltins "isinstance" = some (.builtin "isinstance") := by decide +kernel) :
    XE X E (.Call (.Name "isinstance" p1) [e, .Tuple [.Name y p2, .Name z p3] kt p4] [] pos) (tCB (rIsiT X.K) (tCons te (tCons (tTup (tCons (tC (.ty a)) (tCons (tC (.ty b)) tNil))) tNil))) (mIsi2 a b m) :=
  ⟨pe_callB call_isiT hg hm hv (pa_cons he.pe (pa_cons (pe_tup (pa_cons (pe_bltn (v := .ty a) hga hma hva rfl hna hda) (pa_cons (pe_bltn (v := .ty b) hgb hmb hvb rfl hnb hdb) pa_nil))) pa_nil) h1) (by decide) (by decide) h1 rfl, den_isi2 he.den⟩
end

/-! ### sorted -/
def leD (a b : PyData) : Bool := PySem.W.dataLe false (fun d : PyData => d) a b
def tupCons : PyData → Bool
  | .tuple (_ :: _) => true
  | _ => false
def tupNone : PyData → Bool
  | .tuple _ => true
  | .none => true
  | _ => false
def sortOk (ds : List PyData) : Bool := (ds.all fun d => ds.all fun e => PySem.W.alike d e) && ((ds.all tupCons) || (ds.all fun d => !tupNone d)) && (ds.all fun d => decide (d.depth ≤ 60)) && decide (ds.length ≤ LIM)
theorem sortOk_ok {ds : List PyData} (h : sortOk ds = true) : PySem.W.AllAlike ds ∧ PySem.W.Sortable ds ∧ (∀ d ∈ ds, d.depth ≤ 60) ∧ ds.length ≤ LIM := by
  unfold sortOk at h
  simp only [Bool.and_eq_true, Bool.or_eq_true, List.all_eq_true, decide_eq_true_eq, Bool.not_eq_true'] at h
  obtain ⟨⟨⟨h1, h2⟩, h3⟩, h4⟩ := h
  refine ⟨fun d hd e he => h1 d hd e he, ?_, h3, h4⟩
  rcases h2 with h2 | h2
  · refine .inl fun d hd => ?_
    have := h2 d hd
    unfold tupCons at this
    split at this
    · exact ⟨_, _, rfl⟩
    · cases this
  · refine .inr fun d hd => ?_
    have := h2 d hd
    refine ⟨fun e => ?_, fun xs e => ?_⟩
    · subst e; cases this
    · subst e; cases this
def rSortA (K : PySem.W.Frag) : List V → Hp → VK → Prop := fun vs H Q => ∃ (a : Addr) (xs : List V) (ds : List PyData), vs = [V.ref a] ∧ SqL K H a xs ∧ DpAll K H xs ds ∧ sortOk ds = true ∧
  ∀ p, H p = none → Q (.ref p) (upd H p (.lst (((xs.zip ds).mergeSort fun p q => leD p.2 q.2).map Prod.fst)))
theorem each_zip {h : Heap} : ∀ {ds : List PyData} {xs : List V} {its : List Value} {as : List Addr}, Vals xs its → ReadsAll h its ds as → PySem.W.EachIs (fun u (b : V × PyData) => RelV b.1 u ∧ ∃ as, Reads h u b.2 as) its (xs.zip ds)
  | [], _, _, _, r, h => by cases h; cases r; exact .nil
  | d :: ds, _, _, _, r, h => by
    cases h with
    | cons h1 h2 => cases r with
      | cons r1 r2 => exact .cons ⟨r1, _, h1⟩ (each_zip r2 h2)
theorem each_fst : ∀ {us : List Value} {bs : List (V × PyData)}, PySem.W.EachIs (fun u (b : V × PyData) => RelV b.1 u) us bs → Vals (bs.map Prod.fst) us
  | _, _, .nil => .nil
  | _, _, .cons h1 h2 => .cons h1 (each_fst h2)
theorem snd_zip_eq : ∀ {xs : List V} {ds : List PyData}, xs.length = ds.length → (xs.zip ds).map Prod.snd = ds
  | [], [], _ => rfl
  | x :: xs, d :: ds, h => by
    have e := snd_zip_eq (xs := xs) (ds := ds) (by simpa using h)
    simp [e]
theorem cr_sortA {X : Cx} (hu : X.A.units + 64 < cLine) : CallR X (.builtin "sorted") (rSortA X.K) := by
  intro pins s σ H vs us Q I r h
  obtain ⟨a, xs, ds, rfl, hs, hd, so, q⟩ := h
  obtain ⟨its, rv, hl, hz⟩ := I.list hs
  rw [Vals.ref1 r]
  obtain ⟨h1, h2, h3, h4⟩ := sortOk_ok so
  obtain ⟨as, hr⟩ := Dp.readsAll I ds xs its hd rv
  have ez := each_zip rv hr
  have hlen : xs.length = ds.length := by
    have e1 := ez.length
    have e2 := rv.length
    have e3 : its.length = ds.length := (SeqAt.ReadsAll.length ds its as hr)
    omega
  have hsnd := snd_zip_eq hlen
  refine PySem.W.sorted_data (R := fun u (b : V × PyData) => RelV b.1 u) (enc := fun b : V × PyData => b.2) hl.isList (ez.mono fun _ _ z => z.1) (ez.mono fun _ _ z => z.2) (by rw [hsnd]; exact h1) (by rw [hsnd]; exact h2) (by
    rw [List.length_zip, hlen]
    have := Nat.le_of_lt (Nat.lt_of_le_of_lt h4 lim_line)
    omega) (fun b hb => ?_) fun out ho er => ?_
  · have : b.2 ∈ ds := by rw [← hsnd]; exact List.mem_map.mpr ⟨b, hb, rfl⟩
    have := h3 _ this
    omega
  · obtain ⟨ep, he'⟩ := PyProof.Rows.sortedAll_at s.heap its (List.toArray out)
    have hv := each_fst er
    have hl2 : (((xs.zip ds).mergeSort fun p q => leD p.2 q.2).map Prod.fst).length ≤ sizeLine := by
      rw [List.length_map, List.length_mergeSort, List.length_zip, hlen]
      have := Nat.le_of_lt (Nat.lt_of_le_of_lt h4 lim_line)
      omega
    exact ⟨.ref _, upd H (s.heap.objs.size + 1) (.lst (((xs.zip ds).mergeSort fun p q => leD p.2 q.2).map Prod.fst)), I.laid (t' := s.toks) (fun _ _ => PyProof.Rows.sortedAll_old) (Nat.le_succ _) ⟨hl2, out, ep, hv, he'⟩, rfl, q _ (I.hok.fresh (Nat.le_succ _))⟩
/-- the sorted items -/
def leT (a b : T) : Bool := match a.pd, b.pd with
  | some d, some e => leD d e
  | _, _ => false
def sortT (ts : List T) : List T := ts.mergeSort leT
def fSorted (b : Bool) : List W → Cs → R W := fun ws cs => match ws with
  | [x] => match frz 8 x cs with
    | some (.lst ts, cs1) => match T.pds ts with
      | some ds => if sortOk ds then newL b ((sortT ts).map .cl) cs1 else .no
      | none => .no
    | _ => .no
  | _ => .no
theorem pds_each : ∀ {ts : List T} {ds : List PyData}, T.pds ts = some ds → PySem.W.EachIs (fun t d => T.pd t = some d) ts ds
  | [], _, h => by cases h; exact .nil
  | t :: ts, _, h => by
    unfold T.pds at h
    split at h
    · rename_i d ds e1 e2
      cases h
      exact .cons e1 (pds_each e2)
    · cases h
theorem each_three {K : Fg} {B : Hp} : ∀ {ts : List T} {vs : List V} {ds : List PyData}, Reps K B vs ts → T.pds ts = some ds → PySem.W.EachIs (fun (p : V × PyData) t => Rep K B p.1 t ∧ T.pd t = some p.2) (vs.zip ds) ts
  | [], _, _, r, h => by cases r; cases h; exact .nil
  | t :: ts, _, _, r, h => by
    cases r with
    | cons r1 r2 =>
      unfold T.pds at h
      split at h
      · rename_i d ds e1 e2
        cases h
        exact .cons ⟨r1, e1⟩ (each_three r2 e2)
      · cases h
theorem each_reps {K : Fg} {B : Hp} : ∀ {ps : List (V × PyData)} {ts : List T}, PySem.W.EachIs (fun (p : V × PyData) t => Rep K B p.1 t ∧ T.pd t = some p.2) ps ts → Reps K B (ps.map Prod.fst) ts
  | _, _, .nil => .nil
  | _, _, .cons h1 h2 => .cons h1.1 (each_reps h2)
theorem each_at {α β : Type} {R' : α → β → Prop} : ∀ {as : List α} {bs : List β}, PySem.W.EachIs R' as bs → ∀ p, p ∈ as.zip bs → R' p.1 p.2
  | _, _, .nil, p, hp => by cases hp
  | _, _, .cons h1 h2, p, hp => by
    rcases List.mem_cons.mp hp with rfl | hp
    · exact h1
    · exact each_at h2 p hp
section
variable {X : Cx}
theorem c_sorted (b : Bool) (hu : X.A.units + 64 < cLine) : XC X (.builtin "sorted") (rSortA X.K) (fSorted b) := ⟨cr_sortA hu, fun E F B H ads cs xs vs Q w r h => by
  unfold fSorted at h
  split at h
  · split at h
    · rename_i ts cs1 e
      split at h
      · rename_i ds hd
        split at h
        · rename_i so
          cases r with | cons r1 r2 =>
            cases r2
            obtain ⟨B1, s1, w1, q1, _⟩ := frz_ok (K := fx X) 8 _ _ _ _ _ _ _ _ _ w r1 e
            cases q1 with
            | lst a b1 =>
              rename_i a0 us
              have e3 := each_three b1 hd
              have e4 := PySem.W.sort_each (r := fun p q : V × PyData => leD p.2 q.2) (s := leT) e3 (fun p hp q hq => by
                have z1 := each_at e3 p hp
                have z2 := each_at e3 q hq
                show leD _ _ = leT _ _
                unfold leT
                rw [z1.2, z2.2])
              refine ⟨a0, us, ds, rfl, .of (w1.same _ _ a), (dps_of ts us ds (b1.mono w1.same) hd).1, so, fun p hp => newL_ok w1 (.ofT (each_reps e4)) hp (wpR_mono h (fun _ _ h => h.mono s1 (List.prefix_refl _)) fun _ _ h => h.mono s1 (List.prefix_refl _))⟩
        · exact h.elim
      · exact h.elim
    · exact h.elim
  · exact h.elim⟩
end

/-! ### what a def promises, and calls -/
def isSc : T → Bool
  | .non => true | .bl _ => true | .int _ => true | .str _ => true | .ty _ => true | .rf _ => true
  | _ => false
theorem Rep.sc {K : Fg} {B B' : Hp} {v : V} {t : T} (h : Rep K B v t) (s : isSc t = true) : Rep K B' v t := by
  cases h <;> first | exact .non | exact .bl _ | exact .int _ | exact .str _ | exact .ty _ | exact .rf _ | cases s
def spT (K : Fg) (n : Nat) (g : List T → Option T) : Sp := fun vs H Q _ => vs.length = n ∧ ∃ B ts t, Same B H ∧ Reps K B vs ts ∧ g ts = some t ∧
  ∀ v B' H', Same B B' → Same B' H' → Same H H' → (∀ a o, B a = none → H a = some o → B' a = none ∨ IsT o) → Rep K B' v t → Q v H'
def callT (g : List T → Option T) (ws : List W) (cs : Cs) : R W := match frzs (frz 8) ws cs with
  | some (ts, cs') => match g ts with
    | some t => if isSc t then .ok (.cl t) cs else .ok (.cl t) cs'
    | none => .no
  | none => .no
def mCallD (g : List T → Option T) (m : MA) : ME := fun ρ cs => (m ρ cs).bind fun ws cs1 => callT g ws cs1
theorem den_call {K : Fg} {E : XK} {E' : XK} {n : Nat} {g : List T → Option T} {t : TA} {m : MA} (hn : ∀ ρ cs ws cs', m ρ cs = .ok ws cs' → ws.length = n) (d : DenA K E t m) : DenE K E (tCall (spT K n g) [] E' t) (mCallD g m) := fun F B H ads cs σ ρ Q w l h => by
  have h0 := wpR_bind h
  have h1 : wpR (m ρ cs) (fun ws cs1 => ws.length = n ∧ wpR (callT g ws cs1) (PostV K F B ads Q) (PostE K F B ads E)) (PostE K F B ads E) := by
    cases e : m ρ cs with
    | no => rw [e] at h0; exact h0
    | ex x y => rw [e] at h0; exact h0
    | ok ws cs1 => rw [e] at h0; exact ⟨hn _ _ _ _ e, h0⟩
  refine d F B H ads cs σ ρ _ w l (wpR_mono h1 (fun ws cs1 h1 B1 H1 ads1 vs s1 p1 w1 r1 => ?_) fun _ _ h => h)
  obtain ⟨hl, h1⟩ := h1
  rw [List.append_nil]
  refine ⟨by rw [r1.length]; exact hl, ?_⟩
  unfold callT at h1
  split at h1
  · rename_i ts cs2 e
    obtain ⟨B2, s2, w2, q2, _⟩ := frzs_ok (frz_ok (K := K) 8) w1 r1 e
    split at h1
    · rename_i t ht
      refine ⟨B2, ts, t, w2.same, q2, ht, fun v B' H' a1 a2 a3 a4 rv => ?_⟩
      split at h1
      · rename_i hsc
        exact h1 B1 H' ads1 v s1 p1 (w1.grow (Same.refl _) (w1.same.trans a3) a3 fun a _ n _ => .inl n) (.cl (rv.sc hsc))
      · exact h1 B' H' ads1 v ((s1.trans s2).trans a1) p1 (w2.grow a1 a2 a3 fun a o n q => a4 a o n q) (.cl rv)
    · exact h1.elim
  · exact h1.elim
/-- the values of argument lists have their length -/
theorem len_nil : ∀ ρ cs ws cs', mNil ρ cs = .ok ws cs' → ws.length = 0 := fun ρ cs ws cs' h => by cases h; rfl
theorem len_cons {n : Nat} {a : ME} {m : MA} (h : ∀ ρ cs ws cs', m ρ cs = .ok ws cs' → ws.length = n) : ∀ ρ cs ws cs', mCons a m ρ cs = .ok ws cs' → ws.length = n + 1 := fun ρ cs ws cs' e => by
  unfold mCons at e
  cases e1 : a ρ cs with
  | no => rw [e1] at e; cases e
  | ex x y => rw [e1] at e; cases e
  | ok w cs1 =>
    rw [e1] at e
    simp only [R.bind] at e
    cases e2 : m ρ cs1 with
    | no => rw [e2] at e; cases e
    | ex x y => rw [e2] at e; cases e
    | ok ws2 cs2 =>
      rw [e2] at e
      cases e
      simp [h _ _ _ _ e2]
structure DefOk (P : Program) (w : World) (K : PySem.W.Frag) (mg : Str → Option Value) (base : Heap) (x : Str) (n k : Nat) (g : List T → Option T) : Prop where
  ex : ∃ f fd ps, mg x = some (.ref f) ∧ PySem.W.keepIn K (.ref f) = true ∧ Binds K fd ps [] ∧ FnOk P w K mg base CX0 k f fd ps (spT ⟨K, w⟩ n g)
section
variable {P : Program} {w : World} {K : PySem.W.Frag} {mg : Str → Option Value} {base : Heap} {x : Str} {n k : Nat} {g : List T → Option T}
theorem DefOk.mono {j : Nat} (D : DefOk P w K mg base x n k g) (h : k ≤ j) : DefOk P w K mg base x n j g := by
  obtain ⟨f, fd, ps, a, b, c, d⟩ := D.ex
  exact ⟨f, fd, ps, a, b, c, d.mono h⟩
end
section
variable {X : Cx} {E : XK} {x : Str} {p pos : Pos} {e : Expr} {es : List Expr} {t : TA} {m : MA} {n k : Nat} {g : List T → Option T}
theorem x_call (D : DefOk X.prog X.w X.K X.mg X.base x n k g) (hr : Room k X.A) (hg : Gl X x) (ha : XA X E (e :: es) t m) (hn : ∀ ρ cs ws cs', m ρ cs = .ok ws cs' → ws.length = n)
    (hdb : (x == ("__debug__" : Str)) = false := by decide) (he : starEach (e :: es) X.env = (false, eval e X.env) :: starEach es X.env := by rfl) (hpl : (backTo pos (starEach es X.env)).any (·.1) = false := by rfl) :
    XE X E (.Call (.Name x p) (e :: es) [] pos) (tCall (spT (fx X) n g) [] E0 t) (mCallD g m) := by
  obtain ⟨f, fd, ps, a, b, c, d⟩ := D.ex
  exact ⟨pe_call d hr hg a b c .nil pass0 ha.pa hdb he hpl, den_call hn ha.den⟩
end
def startL (n : Nat) (ts : List T) : Loc := ts.map (fun t => some (W.cl t)) ++ List.replicate (n - ts.length) none
def runT (n : Nat) (mb : MS) (ts : List T) : Option T := match mb (startL n ts) [] with
  | .ok (.rt w) cs => (frz 8 w cs).map (·.1)
  | .ok (.nx _) _ => some .non
  | _ => none
theorem okl_start {K : Fg} {B : Hp} {N : List Str} {vs : List V} {ts : List T} (r : Reps K B vs ts) (hn : vs.length ≤ N.length) : OkL K B [] (start N vs) (startL N.length ts) := by
  have hl := r.length
  refine ⟨by simp [L2.start, startL, hl], fun i w e => ?_⟩
  unfold startL at e
  by_cases hi : i < ts.length
  · rw [List.getElem?_append_left (by simpa using hi), List.getElem?_map, List.getElem?_eq_getElem hi] at e
    cases e
    obtain ⟨v, hv, rv⟩ := r.get (List.getElem?_eq_getElem hi)
    refine ⟨v, ?_, .cl rv⟩
    unfold L2.start
    rw [List.getElem?_append_left (by simp; omega), List.getElem?_map, hv]
    rfl
  · rw [List.getElem?_append_right (by simpa using hi), List.getElem?_replicate] at e
    split at e <;> cases e
section
variable {P : Program} {w : World} {K : PySem.W.Frag} {mg : Str → Option Value} {base : Heap}
theorem fn_ok {x qual : Str} {st : Stmt} {f : Addr} {fd : FuncData} {N ps : List Str} {k : Nat} {mb : MS} (F : Fun K x qual st f fd) (S : FnScope N ps (defScope st))
    (hb : ∀ (cdv : Value) (A : Around) (outer : List Env) (s : Shared) (H : Hp) (E : XK), Room k (A.deeper (envOfC qual (defScope st) s.heap.objs.size f cdv)) →
      ∃ te, XSs (cxOf CX0 P w K mg base N qual (defScope st) f cdv A outer s H E).nox E0x (defBody st) te mb) : FnOk P w K mg base CX0 (k + 1) f fd ps (spT ⟨K, w⟩ ps.length (runT N.length mb)) := by
  refine F.ok S (fun vs H Q E h => h.1) fun cdv A outer s H vs Q E hr h => ?_
  obtain ⟨te, D⟩ := hb cdv A outer s H E hr
  refine ⟨te, D.ps, ?_⟩
  obtain ⟨hl, B, ts, t, sb, rp, hg, q⟩ := h
  have hpl : ps.length ≤ N.length := by have := congrArg List.length S.pre; rw [List.length_take] at this; omega
  have wk : Wok ⟨K, w⟩ (fun a => if B a = none then H a else none) B H [] [] := by
    refine ⟨sb, fun a o e => ?_, fun a o e => ?_, rfl, List.nodup_nil, fun a ha => (by cases ha), fun i a c h1 _ => by simp at h1⟩
    · split at e
      · exact e
      · cases e
    · split at e
      · exact .inl (by assumption)
      · cases e
  have den : DenS ⟨K, w⟩ E0x te mb := D.den
  refine den _ B H [] [] (start N vs) (startL N.length ts) _ wk (okl_start rp (by omega)) ?_
  unfold runT at hg
  have fin : ∀ {B' H' ads' cs'}, Same B B' → Wok ⟨K, w⟩ (fun a => if B a = none then H a else none) B' H' ads' cs' → Same H H' ∧ ∀ a o, B a = none → H a = some o → B' a = none ∨ IsT o := fun {B' H' ads' cs'} s' w' => by
    refine ⟨fun a o e => ?_, fun a o n hH => ?_⟩
    · cases hB : B a with
      | none => exact w'.frm a o (by rw [if_pos hB]; exact e)
      | some o' =>
        have : H a = some o' := sb a o' hB
        rw [e] at this
        cases this
        exact w'.same a o (s' a o hB)
    · exact w'.dis a o (by rw [if_pos n]; exact hH)
  cases hm : mb (startL N.length ts) [] with
  | no => rw [hm] at hg; cases hg
  | ex e cs => rw [hm] at hg; cases hg
  | ok fl cs =>
    rw [hm] at hg
    intro B' H' ads' s' p' w'
    cases fl with
    | nx ρ =>
      cases hg
      intro σ' l'
      obtain ⟨f1, f2⟩ := fin s' w'
      exact q .non B' H' s' w'.same f1 f2 .non
    | rt x =>
      intro v rv
      cases ef : frz 8 x cs with
      | none =>
        rw [show (match R.ok (Fl.rt x) cs with | .ok (.rt w) cs => (frz 8 w cs).map (·.1) | .ok (.nx _) _ => some T.non | _ => none) = (frz 8 x cs).map (·.1) from rfl, ef] at hg
        cases hg
      | some p =>
        obtain ⟨t', cs'⟩ := p
        rw [show (match R.ok (Fl.rt x) cs with | .ok (.rt w) cs => (frz 8 w cs).map (·.1) | .ok (.nx _) _ => some T.non | _ => none) = (frz 8 x cs).map (·.1) from rfl, ef] at hg
        cases hg
        obtain ⟨B2, s2, w2, q2, _⟩ := frz_ok (K := ⟨K, w⟩) 8 _ _ _ _ _ _ _ _ _ w' rv ef
        obtain ⟨f1, f2⟩ := fin (s'.trans s2) w2
        exact q v B2 H' (s'.trans s2) w2.same f1 f2 q2
    | bk ρ => cases hg
    | ct ρ => cases hg
theorem fn_none {f : Addr} {fd : FuncData} {ps : List Str} {n k : Nat} : FnOk P w K mg base CX0 k f fd ps (spT ⟨K, w⟩ n fun _ => none) :=
  ⟨fun vs H Q E h => (by obtain ⟨_, _, _, _, _, _, h, _⟩ := h; cases h), fun A outer s H args us vs Q E hr he hb hv h => by obtain ⟨_, _, _, _, _, _, h, _⟩ := h; cases h⟩
end
end G

/-! The tree layer, 10: is True; zip, enumerate; max with default; count; dicts with tuple keys. -/
namespace G
open PySem L2 RZ PyProof.Rows

/-! ### is True, is False -/
theorem is_bool_gen {M : Model} {A : Around} {E : Value → Shared → Prop} {s : Shared} {Q : Value → Shared → Prop} {x : V} {v : Value} {b : Bool} (r : RelV x v) (h : Q (.bool (v == .bool b)) s) : wpAny M A (compareOp .Is v (.bool b)) Q E s := by
  cases x with
  | non => cases r; exact wpAny_pure h
  | bl a => cases r; exact wpAny_pure h
  | int _ => obtain ⟨t, rfl⟩ := r; exact wpAny_pure h
  | str _ => obtain ⟨t, rfl⟩ := r; exact wpAny_pure h
  | byt _ => obtain ⟨t, rfl⟩ := r; exact wpAny_pure h
  | flt _ => obtain ⟨t, rfl⟩ := r; exact wpAny_pure h
  | ref _ => cases r; exact wpAny_pure h
  | ty _ => cases r; exact wpAny_pure h
theorem isnot_bool_gen {M : Model} {A : Around} {E : Value → Shared → Prop} {s : Shared} {Q : Value → Shared → Prop} {x : V} {v : Value} {b : Bool} (r : RelV x v) (h : Q (.bool (!(v == .bool b))) s) : wpAny M A (compareOp .IsNot v (.bool b)) Q E s := by
  cases x with
  | non => cases r; exact wpAny_pure h
  | bl a => cases r; exact wpAny_pure h
  | int _ => obtain ⟨t, rfl⟩ := r; exact wpAny_pure h
  | str _ => obtain ⟨t, rfl⟩ := r; exact wpAny_pure h
  | byt _ => obtain ⟨t, rfl⟩ := r; exact wpAny_pure h
  | flt _ => obtain ⟨t, rfl⟩ := r; exact wpAny_pure h
  | ref _ => cases r; exact wpAny_pure h
  | ty _ => cases r; exact wpAny_pure h
theorem relV_bool {x : V} {v : Value} {b : Bool} (r : RelV x v) : (v == Value.bool b) = decide (x = .bl b) := by
  cases x with
  | non => cases r; rfl
  | bl a => cases r; cases a <;> cases b <;> rfl
  | int _ => obtain ⟨t, rfl⟩ := r; rfl
  | str _ => obtain ⟨t, rfl⟩ := r; rfl
  | byt _ => obtain ⟨t, rfl⟩ := r; rfl
  | flt _ => obtain ⟨t, rfl⟩ := r; rfl
  | ref _ => cases r; rfl
  | ty _ => cases r; rfl
def fIsB (neg : Bool) : W → W → Cs → R W := fun x y cs => match y with
  | .cl (.bl b) => match x with
    | .cl (.bl a) => .ok (.cl (.bl (if neg then !(a == b) else a == b))) cs
    | _ => .ok (.cl (.bl neg)) cs
  | _ => .no
def rIsBA (neg : Bool) : R2 := fun x y H Q => ∃ b, y = .bl b ∧ Q (.bl (if neg then !decide (x = .bl b) else decide (x = .bl b))) H
section
variable {X : Cx}
theorem op_isBA : OpR X (compareOp .Is) (rIsBA false) := by
  intro pins s σ H x y v u Q I rx ry h
  obtain ⟨b, rfl, q⟩ := h
  cases (show u = Value.bool b from ry)
  exact is_bool_gen rx ⟨.bl _, H, I, by rw [relV_bool rx]; rfl, q⟩
theorem op_notBA : OpR X (compareOp .IsNot) (rIsBA true) := by
  intro pins s σ H x y v u Q I rx ry h
  obtain ⟨b, rfl, q⟩ := h
  cases (show u = Value.bool b from ry)
  exact isnot_bool_gen rx ⟨.bl _, H, I, by rw [relV_bool rx]; rfl, q⟩
theorem rep_bl {K : Fg} {B : Hp} {ads : List Addr} {v : V} {x : W} (r : RepW K B ads v x) : (∃ a, x = .cl (.bl a) ∧ v = .bl a) ∨ ((∀ a, x ≠ .cl (.bl a)) ∧ ∀ a, v ≠ .bl a) := by
  cases r with
  | pt => exact .inr ⟨fun _ e => (nomatch e), fun _ e => (nomatch e)⟩
  | cl r => cases r <;> first | exact .inl ⟨_, rfl, rfl⟩ | exact .inr ⟨fun _ e => (nomatch e), fun _ e => (nomatch e)⟩
theorem den_isB {K : Fg} (neg : Bool) : Den2 K (rIsBA neg) (fIsB neg) := fun E F B H ads cs x y v u Q w rx ry h => by
  unfold fIsB at h
  split at h
  · rename_i b
    cases rw_bl ry
    refine ⟨b, rfl, ?_⟩
    rcases rep_bl rx with ⟨a, rfl, rfl⟩ | ⟨n1, n2⟩
    · have e : decide (V.bl a = V.bl b) = (a == b) := by cases a <;> cases b <;> rfl
      rw [e]
      exact PostV.cl w (.bl _) h
    · rw [decide_eq_false (n2 b)]
      split at h
      · exact absurd rfl (n1 _)
      · cases neg <;> exact PostV.cl w (.bl _) h
  · exact h.elim
theorem o_isB : XO2 X (compareOp .Is) (rIsBA false) (fIsB false) := ⟨op_isBA, den_isB false⟩
theorem o_notB : XO2 X (compareOp .IsNot) (rIsBA true) (fIsB true) := ⟨op_notBA, den_isB true⟩
end

/-! ### zip -/
theorem walk_zipT {K : Fg} {a b : Addr} {xs ys : List V} {n : Nat} (hn : n = min xs.length ys.length) : Walk (ItzT K a b) n (fun H => SqT K H a xs ∧ SqT K H b ys) (YPair (fun i => xs[i]?) (fun i => ys[i]?)) := by
  subst hn
  refine ⟨fun i _ hi q => ?_, fun _ q => ⟨xs, ys, q.1, q.2, by omega⟩, fun i H v H' _ q y => ?_⟩
  · have h1 : i < xs.length := by omega
    have h2 : i < ys.length := by omega
    exact ⟨xs, ys, xs[i], ys[i], q.1, q.2, by simp [h1], by simp [h2]⟩
  · obtain ⟨T, x, z, h1, h2, h3, h4, h5⟩ := y
    exact ⟨T, x, z, h1, h2, h3, h4 xs q.1, h5 ys q.2⟩
def zipTs : List T → List T → List T
  | x :: xs, y :: ys => .tup [x, y] :: zipTs xs ys
  | _, _ => []
theorem zipTs_len : ∀ xs ys : List T, (zipTs xs ys).length = min xs.length ys.length
  | [], _ => by simp [zipTs]
  | _ :: _, [] => by simp [zipTs]
  | x :: xs, y :: ys => by simp [zipTs, zipTs_len xs ys]
theorem zipTs_get : ∀ {xs ys : List T} {i : Nat} {a b : T}, xs[i]? = some a → ys[i]? = some b → (zipTs xs ys)[i]? = some (.tup [a, b])
  | [], _, _, _, _, h, _ => by simp at h
  | _ :: _, [], _, _, _, _, h => by simp at h
  | x :: xs, y :: ys, 0, a, b, h1, h2 => by simp at h1 h2; subst h1; subst h2; rfl
  | x :: xs, y :: ys, i + 1, a, b, h1, h2 => by
    have := zipTs_get (xs := xs) (ys := ys) (i := i) (by simpa using h1) (by simpa using h2)
    simpa [zipTs] using this
/-- new pairs of what two clean rows hold -/
theorem yt_pair {K : Fg} {B : Hp} {f g : Nat → Option V} {ts : List T} (h : ∀ i x y, f i = some x → g i = some y → ∃ t u, ts[i]? = some (.tup [t, u]) ∧ Rep K B x t ∧ Rep K B y u) : ∀ i H x H', i < ts.length → YPair f g i H x H' → YT K B ts i H x H' := fun i H v H' hi y F B1 ads cs s w => by
  obtain ⟨T0, x, z, rfl, hT, rfl, hx, hz⟩ := y
  obtain ⟨t, u, ht, r1, r2⟩ := h i x z hx hz
  have bp := w.same.free hT
  exact ⟨_, upd B1 T0 (.tup [x, z]), ht, upd_same' bp, w.clean _ hT, .tup upd_same (.cons ((r1.mono s).mono (upd_same' bp)) (.cons ((r2.mono s).mono (upd_same' bp)) .nil))⟩
def mZip (m : MA) : MI := fun ρ cs => (m ρ cs).bind fun ws cs1 => match frzs (frz 8) ws cs1 with
  | some ([.lst xs, .lst ys], cs2) => .ok (zipTs xs ys) cs2
  | some ([.tup xs, .tup ys], cs2) => .ok (zipTs xs ys) cs2
  | _ => .no
theorem den_zip {K : Fg} {E : XK} {ta : TA} {m : MA} (d : DenA K E ta m) : DenI K E (iZipA K ta) (mZip m) := fun F B H ads cs σ ρ Q w l h => by
  refine d F B H ads cs σ ρ _ w l (wpR_mono (wpR_bind h) (fun ws cs1 h1 B1 H1 ads1 vs s1 p1 w1 r1 => ?_) fun _ _ h => h)
  split at h1
  · rename_i xs ys cs2 e
    obtain ⟨B2, s2, w2, q2, _⟩ := frzs_ok (frz_ok (K := K) 8) w1 r1 e
    cases q2 with | cons g1 g2 => cases g2 with | cons g2 g3 =>
      cases g3
      cases g1 with | lst a1 b1 => cases g2 with | lst a2 b2 =>
        rename_i x1 v1 x2 v2
        refine ⟨x1, x2, v1, v2, rfl, .inl ⟨.of (w2.same _ _ a1), .of (w2.same _ _ a2), h1 B2 H1 ads1 _ (s1.trans s2) p1 w2 ?_⟩⟩
        have := walk_zip (K := K) (a := x1) (b := x2) (xs := v1) (ys := v2) (n := (zipTs xs ys).length) (by rw [zipTs_len, b1.length, b2.length])
        refine this.mono (fun H hs => ⟨.of (hs _ _ a1), .of (hs _ _ a2)⟩) fun i H x H' hi _ y => yt_pair (fun i x y hx hy => ?_) i H x H' hi y
        obtain ⟨t, ht, rt⟩ := b1.getV hx
        obtain ⟨u, hu, ru⟩ := b2.getV hy
        exact ⟨t, u, zipTs_get ht hu, rt, ru⟩
  · rename_i xs ys cs2 e
    obtain ⟨B2, s2, w2, q2, _⟩ := frzs_ok (frz_ok (K := K) 8) w1 r1 e
    cases q2 with | cons g1 g2 => cases g2 with | cons g2 g3 =>
      cases g3
      cases g1 with | tup a1 b1 => cases g2 with | tup a2 b2 =>
        rename_i x1 v1 x2 v2
        refine ⟨x1, x2, v1, v2, rfl, .inr ⟨.of (w2.same _ _ a1), .of (w2.same _ _ a2), h1 B2 H1 ads1 _ (s1.trans s2) p1 w2 ?_⟩⟩
        have := walk_zipT (K := K) (a := x1) (b := x2) (xs := v1) (ys := v2) (n := (zipTs xs ys).length) (by rw [zipTs_len, b1.length, b2.length])
        refine this.mono (fun H hs => ⟨.of (hs _ _ a1), .of (hs _ _ a2)⟩) fun i H x H' hi _ y => yt_pair (fun i x y hx hy => ?_) i H x H' hi y
        obtain ⟨t, ht, rt⟩ := b1.getV hx
        obtain ⟨u, hu, ru⟩ := b2.getV hy
        exact ⟨t, u, zipTs_get ht hu, rt, ru⟩
  · exact h1.elim
theorem xi_zip {X : Cx} {E : XK} {e e2 : Expr} {ta : TA} {m : MA} {p pos tpos : Pos} {elts : List Expr} {kk : Nat} (hg : Gl X "zip") (hm : X.mg "zip" = none) (ha : XA X E [e, e2] ta m)
    (hs : starEach [e, e2] X.env = (false, eval e X.env) :: starEach [e2] X.env := by rfl) (hpl : (backTo pos (starEach [e2] X.env)).any (·.1) = false := by rfl) :
    XI X E (.Tuple elts kk tpos) (.Call (.Name "zip" p) [e, e2] [] pos) (iZipA X.K ta) (mZip m) := ⟨pi_zipA hg hm ha.pa hs hpl, den_zip ha.den⟩

/-! ### enumerate of a list or a tuple -/
theorem meets_enumerate_newT (l : Addr) (items : Array Value) (n : Nat) (dct : Option Addr) (sl : Array (Option Value)) :
    Meets (Builtin.«enumerate.__new__» ⟨[.type "enumerate", .ref l], []⟩) (fun _ R s => s.heap.get? l = some { cls := .type "tuple", dict := dct, data := .seq items n, slots := sl } ∧
      R (.ok (.ret (.ref (s.heap.push { cls := .type "tuple_iterator", data := .fields #[.ref l, .int 0 0] }).objs.size)))
        { s with heap := (s.heap.push { cls := .type "tuple_iterator", data := .fields #[.ref l, .int 0 0] }).push { cls := .type "enumerate", data := .fields #[.none, .bool false, .ref s.heap.objs.size, rawInt 0, .none, .none] } }) :=
  .of_wp fun prog w A R s h => by
    obtain ⟨hp, g, d, tk, os⟩ := s; obtain ⟨hl, h⟩ := h
    have hsub := sub_enumerate
    have hL : Heap.IsTuple (Shared.heap ⟨hp, g, d, tk, os⟩) l items := ⟨_, hl, rfl, n, rfl⟩
    wp_walk using AutoSeq1.wpAny_loadPart' hl
    refine wpAny_stack_any fun st => wpAny_pure ?_
    split
    · rename_i c _ _ _ _ _
      cases (c == Value.type "enumerate")
      · wp_walk using AutoSeq1.wpAny_loadPart' hl, wpAny_pyIter_tuple hL
        exact ⟨_, rfl, h⟩
      · wp_walk using AutoSeq1.wpAny_loadPart' hl, wpAny_pyIter_tuple hL
        exact ⟨_, rfl, h⟩
    · wp_walk using AutoSeq1.wpAny_loadPart' hl, wpAny_pyIter_tuple hL
      exact ⟨_, rfl, h⟩

theorem call_enumerate_tuple {prog : Program} {w : World} {A : Around} {E : Value → Shared → Prop} {s : Shared} {l : Addr} {items : Array Value} {Q : Value → Shared → Prop} (hL : s.heap.IsTuple l items)
    (h : ∀ h', IsEnum h' (s.heap.objs.size + 1) s.heap.objs.size 0 .none → h'.IsTupleIter s.heap.objs.size l 0 → h'.objs.size = s.heap.objs.size + 2 →
      (∀ b o, s.heap.get? b = some o → h'.get? b = some o) → Q (.ref (s.heap.objs.size + 1)) { s with heap := h' }) :
    wpAny (model prog w) A (call (.type "enumerate") [.ref l]) Q E s := by
  obtain ⟨⟨c, dct, dt, sl⟩, hl, hc, n, hd⟩ := hL
  replace hc : c = .type "tuple" := hc
  replace hd : dt = .seq items n := hd
  subst hc hd
  refine callType_new F.called_enumerate (by decide) (F.typeCall_enumerate_1 _) (F.newCall_enumerate_1 _) (fun obj => F.args_object_init_2 obj _) F.entry_enumerate_new
    (meets_enumerate_newT l items n dct sl) ⟨hl, ?_⟩
  have hz : (s.heap.push { cls := .type "tuple_iterator", data := .fields #[.ref l, .int 0 0] }).objs.size = s.heap.objs.size + 1 := Heap.size_push ..
  show _ ∧ _
  rw [hz]
  have he : IsEnum ((s.heap.push { cls := .type "tuple_iterator", data := .fields #[.ref l, .int 0 0] }).push
      { cls := .type "enumerate", data := .fields #[.none, .bool false, .ref s.heap.objs.size, rawInt 0, .none, .none] }) (s.heap.objs.size + 1) s.heap.objs.size 0 .none := by
    have := Heap.get?_push_size (s.heap.push { cls := .type "tuple_iterator", data := .fields #[.ref l, .int 0 0] })
      (o := { cls := .type "enumerate", data := .fields #[.none, .bool false, .ref s.heap.objs.size, rawInt 0, .none, .none] }) rfl
    rw [hz] at this; exact this
  refine ⟨⟨_, he, rfl⟩, h _ he ⟨_, Heap.get?_push_of_some _ (Heap.get?_push_size _ rfl), rfl, rfl⟩ (by rw [Heap.size_push, hz]) fun b o x => Heap.get?_push_of_some _ (Heap.get?_push_of_some _ x)⟩
theorem next_enum_endT {prog : Program} {w : World} {A : Around} {E : Value → Shared → Prop} {s : Shared} {e it l : Addr} {i : Nat} {items : Array Value} {old : Value} {Q : Option Value → Shared → Prop} (hh : A.handled = none)
    (he : IsEnum s.heap e it i old) (hit : s.heap.IsTupleIter it l i) (hl : s.heap.IsTuple l items) (hx : items[i]? = none)
    (hQ : ∀ h', Heap.ExtBut it s.heap h' → Q none { s with heap := h' }) : wpAny (model prog w) A (pyNext (.ref e)) Q E s := by
  have hT : s.TypeIs (.ref e) "enumerate" := ⟨_, he, rfl⟩
  unfold pyNext
  refine wpAny_bind (wpAny_attempt (wpAny_callSpecial?_slot (name := Str.ofString "__next__") hT F.slot_enumerate_next
    (wpAny_call_entry F.slot_enumerate_next hT F.entry_enumerate_next ?_ (F.args_enumerate_next_1 _))))
  show wpAny _ _ (field (.ref e) 2 >>= _) _ _ _
  refine wpAny_bind (wpAny_field he rfl (x := .ref it) rfl ?_)
  refine wpAny_bind (wpAny_nextOf_tuple_end hh hit hl hx fun h' x he' hx' => ?_)
  obtain ⟨o, ho, hc⟩ := hx'
  refine wpAny_bind (wpAny_isInstance (T := "StopIteration") (b := true) ⟨o, ho, hc⟩ isSubtype_stop ?_)
  exact wpAny_pure (hQ _ he')
def IteT (K : PySem.W.Frag) (a : Addr) : It :=
  ⟨fun i H => ∃ (xs : List V) (x : V), SqT K H a xs ∧ xs[i]? = some x, fun i H v H' => ∃ T x, v = .ref T ∧ H T = none ∧ H' = upd H T (.tup [.int (i : Nat), x]) ∧ ∀ xs, SqT K H a xs → xs[i]? = some x, fun i H => ∃ xs : List V, SqT K H a xs ∧ xs.length ≤ i⟩
theorem turn_enumT {P : Program} {w : World} {K : PySem.W.Frag} {elts : List Expr} {kk : Nat} {tpos : Pos} (a e it : Addr) (hai : a ≠ it) (hea : e ≠ a) :
    Turn P w K (.Tuple elts kk tpos) (IteT K a) [e, it] e (fun i h => (∃ old, IsEnum h e it ((i : Nat) : Int) old) ∧ h.IsTupleIter it a i ∧ e ≠ it) where
  mem := by simp
  obj := fun i h st b hb => by
    obtain ⟨⟨old, he⟩, ⟨o, ho, hc, hd⟩, _⟩ := st
    have e' : b = e ∨ b = it := by simpa using hb
    rcases e' with z | z
    · rw [z]; exact ⟨_, he, fun v q => nomatch q⟩
    · rw [z]; exact ⟨o, ho, fun v q => by rw [hd] at q; cases q⟩
  keep := fun i h h' st k => let ⟨⟨old, he⟩, hi, hne⟩ := st; ⟨⟨old, k e (by simp) _ he⟩, hi.at fun o q => k it (by simp) o q, hne⟩
  item := by
    intro X hP hw hK hc i pins s σ H E I hf st hg
    subst hP hw hK
    obtain ⟨⟨old, he⟩, hit, hne⟩ := st
    obtain ⟨xs, x, hq, hx⟩ := hg
    obtain ⟨its, rv, p, hz⟩ := I.tuple hq
    obtain ⟨u, hu, ru⟩ := rv.get hx
    have hel : e < s.heap.objs.size := Heap.lt_size he
    have hil : it < s.heap.objs.size := by obtain ⟨_, q, _⟩ := hit; exact Heap.lt_size q
    have hui : its.toArray[i]? = some u := by simpa using hu
    have hlt : i < its.toArray.size := (Array.getElem?_eq_some_iff.mp hui).1
    refine wpAny_pyNext_enum_itemD (Draws.tuple (A := X.A.in1) (I.ok.hd hc) it a hai its.toArray) he ⟨hit, p⟩ hlt hne (by simp; exact ⟨hne, hea⟩) fun y h' tk hy ho hst' hT hsz hk => ?_
    rw [hui] at hy
    cases hy
    refine ⟨_, rfl, wpAny_letOwnedTupleGo_enum (s := { s with heap := h', toks := tk + 1 }) ho fun h'' he' sb => ?_⟩
    have hT2 : h''.get? s.heap.objs.size = some { cls := .type "tuple", data := .seq #[.int i tk, u] } := (sb.2 _ (Nat.ne_of_gt hel)).trans hT
    have new : ObjOk X.prog X.w (upd H s.heap.objs.size (.tup [.int (i : Nat), x])) h'' s.heap.objs.size (.tup [.int (i : Nat), x]) :=
      ⟨by show 2 ≤ sizeLine; decide, [.int i tk, u], .cons ⟨_, rfl⟩ (.cons ru .nil), ⟨_, hT2, rfl, _, rfl⟩⟩
    have I1 : Inv X pins σ (upd H s.heap.objs.size (.tup [.int (i : Nat), x])) { s with heap := h'', toks := tk + 1 } :=
      I.turnedNew (ch := [e, it]) (fun b ob hb q => (sb.2 b (fun z => hb (by simp [z]))).trans (hk b ob (fun z => hb (by simp [z])) (fun z => hb (by simp [z])) q)) hf (Nat.le_refl _) new
    refine ⟨.ref s.heap.objs.size, _, I1, rfl, ⟨_, x, rfl, I.hok.fresh (Nat.le_refl _), rfl, fun ys hy => by rw [I.tuple_inj hy hq]; exact hx⟩, ⟨⟨u, ?_⟩, hst'.1.at fun o q => (sb.2 it (Ne.symm hne)).trans q, hne⟩, fun b hb => ?_⟩
    · have e1 : ((i + 1 : Nat) : Int) = (i : Int) + 1 := by omega
      rw [e1]; exact he'
    · have hb' : b < s.heap.objs.size := by
        have e' : b = e ∨ b = it := by simpa using hb
        rcases e' with z | z
        · rw [z]; exact hel
        · rw [z]; exact hil
      rw [upd_ne (Nat.ne_of_lt hb')]
      exact (hf b hb).1
  done := by
    intro X hP hw hK hc i pins s σ H E I hf st hg
    subst hP hw hK
    obtain ⟨⟨old, he⟩, hit, hne⟩ := st
    obtain ⟨xs, hq, hx⟩ := hg
    obtain ⟨its, rv, p, hz⟩ := I.tuple hq
    obtain ⟨f0, f1, f2, f3, f4, f5⟩ := hf it (by simp)
    have hl := rv.length
    exact next_enum_endT (I.ok.hd hc) he hit p (by simp; omega) fun h' eb => ⟨rfl, I.turned (t' := s.toks) (fun b o hb q => eb b o hb q) f0 f1 f3 f4 f5⟩
  self := fun A i s Q E st h => let ⟨⟨_, he⟩, _⟩ := st; wpAny_pyIter_enum he h
/-- enumerate(x), x a list or a tuple -/
def iEnumA (K : PySem.W.Frag) (ta : TA) : TI := fun σ H R => ta σ H fun vs H1 => ∃ a xs, vs = [.ref a] ∧ ((SqL K H1 a xs ∧ R (Ite K a) H1) ∨ (SqT K H1 a xs ∧ R (IteT K a) H1))
theorem pi_enumA {X : Cx} {e : Expr} {ta : TA} {p pos tpos : Pos} {elts : List Expr} {kk : Nat} (hg : Gl X "enumerate") (hm : X.mg "enumerate" = none) (ha : PA X [e] ta) (hs : starEach [e] X.env = [(false, eval e X.env)] := by rfl) :
    PI X (.Tuple elts kk tpos) (.Call (.Name "enumerate" p) [e] [] pos) (iEnumA X.K ta) := by
  refine ⟨fun pins s σ H R I h => ?_⟩
  refine Call_ (ld_blt I hg hm boot_enumerate (PyProof.Rows.callWith_type1 (thn (ha.run pos pins s σ H _ I h) fun us s1 ⟨vs, H1, I1, r1, q1⟩ => ?_) hs rfl))
  obtain ⟨a, xs, ex, q1⟩ := q1
  subst ex
  cases r1 with
  | cons r rr =>
    cases rr
    cases r
    have fresh2 : ∀ b, b ∈ [s1.heap.objs.size + 1, s1.heap.objs.size] → FpOk X pins H1 b := fun b hb => by
      have e' : b = s1.heap.objs.size + 1 ∨ b = s1.heap.objs.size := by simpa using hb
      have hle : s1.heap.objs.size ≤ b := by
        rcases e' with z | z
        · rw [z]; exact Nat.le_add_right _ _
        · rw [z]; exact Nat.le_refl _
      exact I1.fpOk hle (I1.hok.fresh hle)
    rcases q1 with ⟨hq, q⟩ | ⟨hq, q⟩
    · obtain ⟨its, rv, p', hz⟩ := I1.list hq
      refine call_enumerate_list p'.isList fun h' he hit hsz hk => wpAny_pyIter_enum he ?_
      have I2 : Inv X pins σ H1 { s1 with heap := h' } := I1.kept (t' := s1.toks) hk
      exact ⟨s1.heap.objs.size + 1, [s1.heap.objs.size + 1, s1.heap.objs.size], _, _, H1, rfl, I2, turn_enum a (s1.heap.objs.size + 1) s1.heap.objs.size, ⟨⟨.none, he⟩, hit, Nat.succ_ne_self _⟩, fresh2, q⟩
    · obtain ⟨its, rv, p', hz⟩ := I1.tuple hq
      obtain ⟨o1, ho1, _⟩ := id p'
      have hal : a < s1.heap.objs.size := Heap.lt_size ho1
      refine call_enumerate_tuple (show s1.heap.IsTuple a its.toArray from p') fun h' he hit hsz hk => wpAny_pyIter_enum he ?_
      have I2 : Inv X pins σ H1 { s1 with heap := h' } := I1.kept (t' := s1.toks) hk
      exact ⟨s1.heap.objs.size + 1, [s1.heap.objs.size + 1, s1.heap.objs.size], _, _, H1, rfl, I2, turn_enumT a (s1.heap.objs.size + 1) s1.heap.objs.size (Nat.ne_of_lt hal) (Nat.ne_of_gt (Nat.lt_succ_of_lt hal)), ⟨⟨.none, he⟩, hit, Nat.succ_ne_self _⟩, fresh2, q⟩
theorem walk_enumT {K : Fg} {a : Addr} {xs : List V} : Walk (IteT K a) xs.length (fun H => SqT K H a xs) (YPair (fun i => some (.int (i : Nat))) (fun i => xs[i]?)) := by
  refine ⟨fun i _ hi q => ⟨xs, xs[i], q, by simp [hi]⟩, fun _ q => ⟨xs, q, Nat.le_refl _⟩, fun i H v H' _ q y => ?_⟩
  obtain ⟨T, x, h1, h2, h3, h4⟩ := y
  exact ⟨T, .int (i : Nat), x, h1, h2, h3, rfl, h4 xs q⟩
def enumFrom (k : Nat) : List T → List T
  | [] => []
  | t :: ts => .tup [.int (k : Int), t] :: enumFrom (k + 1) ts
theorem enumFrom_len : ∀ (ts : List T) (k : Nat), (enumFrom k ts).length = ts.length
  | [], _ => rfl
  | t :: ts, k => by simp [enumFrom, enumFrom_len ts]
theorem enumFrom_get : ∀ {ts : List T} {k i : Nat} {t : T}, ts[i]? = some t → (enumFrom k ts)[i]? = some (.tup [.int ((k + i : Nat) : Int), t])
  | [], _, _, _, h => by simp at h
  | t :: ts, k, 0, u, h => by simp at h; subst h; rfl
  | t :: ts, k, i + 1, u, h => by
    have := enumFrom_get (ts := ts) (k := k + 1) (i := i) (by simpa using h)
    rw [show k + (i + 1) = k + 1 + i by omega]
    simpa [enumFrom] using this
def mEnumerate (m : MA) : MI := fun ρ cs => (m ρ cs).bind fun ws cs1 => match frzs (frz 8) ws cs1 with
  | some ([.lst xs], cs2) => .ok (enumFrom 0 xs) cs2
  | some ([.tup xs], cs2) => .ok (enumFrom 0 xs) cs2
  | _ => .no
theorem den_enum {K : Fg} {E : XK} {ta : TA} {m : MA} (d : DenA K E ta m) : DenI K E (iEnumA K ta) (mEnumerate m) := fun F B H ads cs σ ρ Q w l h => by
  refine d F B H ads cs σ ρ _ w l (wpR_mono (wpR_bind h) (fun ws cs1 h1 B1 H1 ads1 vs s1 p1 w1 r1 => ?_) fun _ _ h => h)
  have fin : ∀ {B' : Hp} {xs : List T} {v1 : List V}, Reps K B' v1 xs → ∀ (i : Nat) (x y : V), (some (V.int (i : Nat)) : Option V) = some x → v1[i]? = some y → ∃ t u, (enumFrom 0 xs)[i]? = some (.tup [t, u]) ∧ Rep K B' x t ∧ Rep K B' y u := fun b1 i x y hx hy => by
    cases hx
    obtain ⟨t, ht, rt⟩ := b1.getV hy
    refine ⟨.int (i : Nat), t, ?_, .int _, rt⟩
    have := enumFrom_get (k := 0) ht
    simpa using this
  split at h1
  · rename_i xs cs2 e
    obtain ⟨B2, s2, w2, q2, _⟩ := frzs_ok (frz_ok (K := K) 8) w1 r1 e
    cases q2 with | cons g1 g2 =>
      cases g2
      cases g1 with | lst a1 b1 =>
        rename_i x1 v1
        refine ⟨x1, v1, rfl, .inl ⟨.of (w2.same _ _ a1), h1 B2 H1 ads1 _ (s1.trans s2) p1 w2 ?_⟩⟩
        have := walk_enum (K := K) (a := x1) (xs := v1)
        rw [b1.length, ← enumFrom_len xs 0] at this
        exact this.mono (fun H hs => .of (hs _ _ a1)) fun i H x H' hi _ y => yt_pair (fun i x y hx hy => fin b1 i x y hx hy) i H x H' hi y
  · rename_i xs cs2 e
    obtain ⟨B2, s2, w2, q2, _⟩ := frzs_ok (frz_ok (K := K) 8) w1 r1 e
    cases q2 with | cons g1 g2 =>
      cases g2
      cases g1 with | tup a1 b1 =>
        rename_i x1 v1
        refine ⟨x1, v1, rfl, .inr ⟨.of (w2.same _ _ a1), h1 B2 H1 ads1 _ (s1.trans s2) p1 w2 ?_⟩⟩
        have := walk_enumT (K := K) (a := x1) (xs := v1)
        rw [b1.length, ← enumFrom_len xs 0] at this
        exact this.mono (fun H hs => .of (hs _ _ a1)) fun i H x H' hi _ y => yt_pair (fun i x y hx hy => fin b1 i x y hx hy) i H x H' hi y
  · exact h1.elim
theorem xi_enumerate {X : Cx} {E : XK} {e : Expr} {ta : TA} {m : MA} {p pos tpos : Pos} {elts : List Expr} {kk : Nat} (hg : Gl X "enumerate") (hm : X.mg "enumerate" = none) (ha : XA X E [e] ta m) (hs : starEach [e] X.env = [(false, eval e X.env)] := by rfl) :
    XI X E (.Tuple elts kk tpos) (.Call (.Name "enumerate" p) [e] [] pos) (iEnumA X.K ta) (mEnumerate m) := ⟨pi_enumA hg hm ha.pa hs, den_enum ha.den⟩

/-! ### max(x, default=d) of ints -/
def rMaxD (K : PySem.W.Frag) : List V → List V → Hp → VK → Prop := fun vs zs H Q => ∃ (a : Addr) (ns : List Int) (d : V), vs = [V.ref a] ∧ zs = [d] ∧ SqL K H a (ns.map V.int) ∧ (ns = [] → Q d H) ∧ (ns ≠ [] → Q (.int (gmax ns)) H)
theorem reads_ints {h : Heap} : ∀ {ns : List Int} {us : List Value}, IntsAre us ns → ∃ as, ReadsAll h us (ns.map PyData.int) as
  | _, _, .nil => ⟨_, .nil⟩
  | _, _, .cons n t r => by
    obtain ⟨as, q⟩ := reads_ints (h := h) r
    exact ⟨_, .cons (.int n t) q⟩
theorem foldl_gmax : ∀ (ns : List Int) (n : Int), ns.foldl max n = gmax (n :: ns) := by
  intro ns
  have key : ∀ (ns : List Int) (n : Int), (ns.foldl max n ∈ n :: ns) ∧ ∀ y ∈ n :: ns, y ≤ ns.foldl max n := by
    intro ns
    induction ns with
    | nil => intro n; simp
    | cons x xs ih =>
      intro n
      obtain ⟨h1, h2⟩ := ih (max n x)
      simp only [List.foldl_cons]
      refine ⟨?_, fun y hy => ?_⟩
      · rcases List.mem_cons.mp h1 with e | e
        · rw [e]
          rcases Int.le_total n x with q | q
          · rw [Int.max_eq_right q]; simp
          · rw [Int.max_eq_left q]; simp
        · exact List.mem_cons_of_mem _ (List.mem_cons_of_mem _ e)
      · have hm := h2 (max n x) (by simp)
        rcases List.mem_cons.mp hy with rfl | hy
        · exact Int.le_trans (Int.le_max_left _ _) hm
        · rcases List.mem_cons.mp hy with rfl | hy
          · exact Int.le_trans (Int.le_max_right _ _) hm
          · exact h2 y (List.mem_cons_of_mem _ hy)
  intro n
  obtain ⟨h1, h2⟩ := key ns n
  obtain ⟨g1, g2⟩ := gmax_spec (xs := n :: ns) (by simp)
  have a1 := g2 _ h1
  have a2 := h2 _ g1
  omega
theorem cr_maxD {X : Cx} (hc : X.calm = true) (hu : X.A.units + 64 < cLine) : CallRK X (.builtin "max") ["default"] (rMaxD X.K) := by
  intro pins s σ H xs zs us ws Q I rx rz h
  obtain ⟨a, ns, d, rfl, rfl, hs, h0, h1⟩ := h
  obtain ⟨its, rv, hl, hz⟩ := I.list hs
  rw [Vals.ref1 rx]
  obtain ⟨u, rfl, ru⟩ := Vals.one rz
  obtain ⟨as, hr⟩ := reads_ints (h := s.heap) (intsAre_of rv)
  have hal : PySem.W.AlikeAll (ns.map PyData.int) := by
    refine ⟨fun x hx y hy => ?_, fun x hx => ?_⟩
    · obtain ⟨i, _, rfl⟩ := List.mem_map.mp hx
      obtain ⟨j, _, rfl⟩ := List.mem_map.mp hy
      rfl
    · obtain ⟨i, _, rfl⟩ := List.mem_map.mp hx
      exact fun e => nomatch e
  have hd0 : ∀ ms : List Int, PyData.depthAll (ms.map PyData.int) = 0 := by
    intro ms
    induction ms with
    | nil => rfl
    | cons m ms ih => simp [PyData.depthAll, PyData.depth, ih]
  refine PySem.W.max_list_default (I.ok.hd hc) hl.isList (xs := ns.map PyData.int) (as := as) (by simpa using hr) hal (by rw [hd0]; omega) (fun e h' tk hk => ?_) fun y ys i v h' tk bs e hv rd hk => ?_
  · exact ⟨d, H, I.kept hk, ru, h0 (List.map_eq_nil_iff.mp e)⟩
  · cases ns with
    | nil => cases e
    | cons n ns =>
      cases e
      rw [PySem.W.maxD_ints, foldl_gmax] at rd
      cases rd
      exact ⟨.int _, H, I.kept hk, ⟨_, rfl⟩, h1 (by simp)⟩
def mMaxD (a b : ME) : ME := fun ρ cs => (a ρ cs).bind fun x cs1 => (b ρ cs1).bind fun d cs2 => match intsW cs2 x with
  | some [] => .ok d cs2
  | some (n :: ns) => .ok (.cl (.int (gmax (n :: ns)))) cs2
  | none => .no
theorem x_maxD {X : Cx} {E : XK} {e d : Expr} {te td : TE} {a b : ME} {p pos kpos : Pos} (hg : Gl X "max") (hm : X.mg "max" = none) (ha : XE X E e te a) (hb : XE X E d td b) (hu : X.A.units + 64 < cLine) (hc : X.calm = true := by rfl)
    (hv : bootBuiltins "max" = some (.builtin "max") := by decide +kernel) (hs : starEach [e] X.env = (false, eval e X.env) :: starEach [] X.env := by rfl)
    (he : backTo pos (starEach [e] X.env) = (false, eval e X.env) :: backTo pos (starEach [] X.env) := by rfl) (hpl : (backTo pos (starEach [e] X.env)).any (·.1) = false := by rfl)
    (hall : (backToKw pos (keywordEach [⟨some "default", d, kpos⟩] X.env)).all (·.1.isSome) = true := by rfl) (hnone : (backToKw pos (keywordEach [⟨some "default", d, kpos⟩] X.env)).any (·.1.isNone) = false := by rfl) (hks : (backToKw pos (keywordEach [⟨some "default", d, kpos⟩] X.env)).filterMap (·.1) = [("default" : Str)] := by rfl) :
    XE X E (.Call (.Name "max" p) [e] [⟨some "default", d, kpos⟩] pos) (tCKw (rMaxD X.K) (tCons te tNil) (tCons td tNil)) (mMaxD a b) :=
  ⟨pe_callBK (cr_maxD hc hu) hg hm hv (pa_cons ha.pe pa_nil hs) (pk_cons hb.pe pk_nil) (by decide) (by decide) he hpl hall hnone hks, fun F B H ads cs σ ρ Q w l h => by
    refine ha.den F B H ads cs σ ρ _ w l (wpR_mono (wpR_bind h) (fun x cs1 h1 B1 H1 ads1 v s1 p1 w1 r1 => ?_) fun _ _ h => h)
    refine hb.den F B1 H1 ads1 cs1 σ ρ _ w1 (l.mono s1 p1) (wpR_mono (wpR_bind h1) (fun y cs2 h2 B2 H2 ads2 u s2 p2 w2 r2 => ?_) fun _ _ h => h.mono s1 p1)
    have s12 := s1.trans s2
    have p12 := p1.trans p2
    split at h2
    · rename_i e
      obtain ⟨a, rfl, q⟩ := intsW_ok w2 (r1.mono s2 p2) e
      exact ⟨a, [], u, rfl, rfl, q, fun _ => h2 B2 H2 ads2 u s12 p12 w2 r2, fun z => absurd rfl z⟩
    · rename_i n ns e
      obtain ⟨a, rfl, q⟩ := intsW_ok w2 (r1.mono s2 p2) e
      exact ⟨a, n :: ns, u, rfl, rfl, q, fun z => (nomatch z), fun _ => h2 B2 H2 ads2 _ s12 p12 w2 (.cl (.int _))⟩
    · exact h2.elim⟩

/-! ### l.count(x) -/
def rCountD (K : PySem.W.Frag) : V → List V → Hp → VK → Prop := fun x xs H Q => ∃ (y : V) (d : PyData) (ds : List PyData), xs = [y] ∧ Dp K H x (.list ds) ∧ Dp K H y d ∧ SeqAt.shaped d = true ∧ PyData.canLayAll0 ds = true ∧ PyData.depthAll ds ≤ 60 ∧ Q (.int ((ds.countP fun z => PyData.eqv z d : Nat) : Int)) H
theorem mt_countD {X : Cx} (hu : X.A.units + 64 < cLine) : MtR X "list.count" (rCountD X.K) := by
  intro pins s σ H x xs v us Q I rx rxs h
  obtain ⟨y, d, ds, rfl, hl, hy, sd, se, hz, q⟩ := h
  obtain ⟨uy, rfl, ry⟩ := Vals.one rxs
  obtain ⟨bs, r1⟩ := Dp.reads I d y uy hy ry
  cases hl with
  | lst hs ha =>
    cases rx
    obtain ⟨its, rv, p, _⟩ := I.list hs
    obtain ⟨as, hr⟩ := Dp.readsAll I ds _ its ha rv
    refine SeqAt.count_list_data (vs := its.toArray) p.isList (by simpa using hr) r1 (PyData.plainAll_of_canLay0 _ se) (PyData.plain_of_canLay0 _ (SeqAt.canLay_of_shaped sd)) ?_ ⟨.int _, H, I.tok _, ⟨_, rfl⟩, q⟩
    have : min (PyData.depthAll ds) d.depth ≤ PyData.depthAll ds := Nat.min_le_left _ _
    omega
def fCount : W → List W → Cs → R W := fun x ys cs => match dat cs x, ys with
  | some (.list ds), [y] => match dat cs y with
    | some d => .ok (.cl (.int ((ds.countP fun z => PyData.eqv z d : Nat) : Int))) cs
    | none => .no
  | _, _ => .no
theorem m_count {X : Cx} (hu : X.A.units + 64 < cLine) : XM X "list" "list.count" "count" (rCountD X.K) fCount := ⟨PySem.F.plainAttrs_list, PySem.F.slot_list_count, PySem.F.type_list_count, mt_countD hu, fun E F B H ads cs x v xs vs Q w r rs h => by
  unfold fCount at h
  split at h
  · rename_i ds y hx
    split at h
    · rename_i d hy
      cases rs with | cons r1 r2 =>
        cases r2
        obtain ⟨a1, a2, a3⟩ := dat_ok w r hx
        obtain ⟨b1, b2, _⟩ := dat_ok w r1 hy
        refine ⟨_, d, ds, rfl, a1, b1, b2, ?_, ?_, PostV.cl w (.int _) h⟩
        · have := SeqAt.canLay_of_shaped a2
          simpa only [PyData.canLay0] using this
        · simp only [PyData.depth] at a3; omega
    · exact h.elim
  · exact h.elim⟩
end G

/-! The tree layer, 11: dicts whose keys are tuples of ints and texts. -/
namespace G
open PySem L2 RZ PyProof.Rows

def keyT : Key → T
  | .inl i => .int i
  | .inr x => .str x
theorem rep_key {K : Fg} {B : Hp} (k : Key) : Rep K B (kV k) (keyT k) := by cases k <;> first | exact .int _ | exact .str _
theorem reps_key {K : Fg} {B : Hp} : ∀ ks : List Key, Reps K B (ks.map kV) (ks.map keyT)
  | [] => .nil
  | k :: ks => .cons (rep_key k) (reps_key ks)
def keyK : T → Option Key
  | .int i => some (.inl i)
  | .str x => some (.inr x)
  | _ => none
def keyL : List T → Option (List Key)
  | [] => some []
  | t :: ts => match keyK t, keyL ts with
    | some k, some ks => some (k :: ks)
    | _, _ => none
theorem keyL_ok {K : Fg} {B : Hp} : ∀ {ts : List T} {vs : List V} {ks : List Key}, Reps K B vs ts → keyL ts = some ks → vs = ks.map kV
  | [], _, _, r, h => by cases r; cases h; rfl
  | t :: ts, _, _, r, h => by
    cases r with
    | cons r1 r2 =>
      unfold keyL at h
      split at h
      · rename_i k ks e1 e2
        cases h
        have := keyL_ok r2 e2
        rw [this]
        unfold keyK at e1
        split at e1
        · cases e1; cases r1; rfl
        · cases e1; cases r1; rfl
        · cases e1
      · cases h
def keyW : W → Option (List Key)
  | .cl (.tup ts) => keyL ts
  | _ => none
theorem keyW_ok {K : Fg} {F B H : Hp} {ads : List Addr} {cs : Cs} {v : V} {x : W} (w : Wok K F B H ads cs) (r : RepW K B ads v x) {ks : List Key} (h : keyW x = some ks) : ∃ b, v = .ref b ∧ H b = some (.tup (ks.map kV)) := by
  unfold keyW at h
  split at h
  · cases r with | cl r => cases r with
      | tup a b => rw [keyL_ok b h] at a; exact ⟨_, rfl, w.same _ _ a⟩
  · cases h
/-- the value at a key -/
def look {κ α : Type} [DecidableEq κ] (ks : List κ) (ws : List α) (k : κ) : Option α := ((ks.zip ws).find? fun p => decide (p.1 = k)).map (·.2)
theorem look_rep {κ : Type} [DecidableEq κ] {K : Fg} {B : Hp} {ads : List Addr} : ∀ {ks : List κ} {vs : List V} {ws : List W} {k : κ}, RepWs K B ads vs ws → ks.length = vs.length →
    (∀ w, look ks ws k = some w → ∃ v, valV (ks.zip vs) k = some v ∧ RepW K B ads v w) ∧ (look ks ws k = none → valV (ks.zip vs) k = none)
  | [], _, _, k, r, h => by
    cases r with
    | nil => exact ⟨fun w e => by simp [look] at e, fun _ => rfl⟩
    | cons _ _ => simp at h
  | q :: ks, _, _, k, r, h => by
    cases r with
    | nil => simp at h
    | @cons v vs w ws r1 r2 =>
      have ih := look_rep (ks := ks) (k := k) r2 (by simpa using h)
      by_cases e : q = k
      · have e1 : look (q :: ks) (w :: ws) k = some w := by simp [look, List.find?_cons, e]
        have e2 : valV ((q :: ks).zip (v :: vs)) k = some v := by simp [valV, List.find?_cons, e]
        rw [e1, e2]
        exact ⟨fun x hx => by cases hx; exact ⟨v, rfl, r1⟩, fun z => nomatch z⟩
      · have e1 : look (q :: ks) (w :: ws) k = look ks ws k := by simp [look, List.find?_cons, e]
        have e2 : valV ((q :: ks).zip (v :: vs)) k = valV (ks.zip vs) k := by simp [valV, List.find?_cons, e]
        rw [e1, e2]
        exact ih
theorem zip_snoc {α β : Type} : ∀ {xs : List α} {ys : List β} {x : α} {y : β}, xs.length = ys.length → xs.zip ys ++ [(x, y)] = (xs ++ [x]).zip (ys ++ [y])
  | [], [], _, _, _ => rfl
  | a :: xs, b :: ys, x, y, h => by
    have := zip_snoc (xs := xs) (ys := ys) (x := x) (y := y) (by simpa using h)
    simp [this]

/-! {} -/
def mDNewT : ME := fun _ cs => .ok (.pt cs.length) (cs ++ [.dT [] []])
theorem x_dnewT {X : Cx} {E : XK} {pos : Pos} : XE X E (.Dict [] [] pos) tDNewT mDNewT := ⟨pe_dnewT, fun F B H ads cs σ ρ Q w l h d hd => by
  have w' : Wok (fx X) F B (upd H d (.dT [])) (ads ++ [d]) (cs ++ [.dT [] []]) := w.push hd ⟨w.same.free hd, [], upd_same, rfl, .nil⟩
  refine h B _ (ads ++ [d]) _ (Same.refl _) (List.prefix_append _ _) w' (.pt ?_)
  rw [← w.len, List.getElem?_append_right (Nat.le_refl _)]
  simp⟩

/-! d.setdefault(k, x) -/
def rSetdT : V → List V → Hp → VK → Prop := fun x xs H Q => ∃ (a b : Addr) (kvs : List (List Key × V)) (k : List Key) (d : V), x = .ref a ∧ xs = [.ref b, d] ∧ H a = some (.dT kvs) ∧ H b = some (.tup (k.map kV)) ∧ kvs.length < sizeLine ∧
  (∀ v, valV kvs k = some v → Q v H) ∧ (valV kvs k = none → Q d (upd H a (.dT (putK kvs k d))))
theorem mt_setdT {X : Cx} (hu : X.A.units + 1 < cLine) : MtR X "dict.setdefault" rSetdT := by
  intro pins s σ H x xs v us Q I rx rxs h
  obtain ⟨a, b, kvs, k, d, rfl, rfl, e, eb, hl, h1, h2⟩ := h
  cases rx
  obtain ⟨ub, ud, rfl, rb, rd⟩ := Vals.two rxs
  cases rb
  obtain ⟨z, hd, xs, rel, dd⟩ := dt_of I.hok e
  have hz : xs.length ≤ sizeLine := by rw [← Paired.length rel]; exact z
  refine PySem.call_setdefault_heap (hsz := hz) (tupleKind_room_in1 hu) (key_of I.hok eb) hd dd (fun p hp => ?_) fun hn h' dd' hs => ?_
  · have q := rel.val k
    rw [hp] at q
    cases q0 : valV kvs k with
    | none => rw [q0] at q; exact (show False from q).elim
    | some v0 =>
      rw [q0] at q
      exact ⟨v0, H, I.tok _, q, h1 v0 q0⟩
  · have q := rel.val k
    rw [hn] at q
    cases q0 : valV kvs k with
    | some v0 => rw [q0] at q; exact (show False from q).elim
    | none =>
      have hl2 : (putK kvs k d).length ≤ sizeLine := by have := length_putK kvs k d; omega
      obtain ⟨o, es, ep, hq, c2, c3, c4, _, c5⟩ := dd'
      refine ⟨d, _, d_write (ob := .dT (putK kvs k d)) (t' := s.toks + (tupleKind (mixKind X.prog X.w)).draws k) I (by rw [e]; exact True.intro) hs ⟨o, hq⟩ ⟨hl2, hd, _, (rel.put k eb rd).keeps fun c ys ec => ?_, o, es, ep, hq, c2, c3, c4, c5⟩, rd, h2 q0⟩
      rw [upd_ne (ne_of ec e (fun z => nomatch z))]
      exact ec
def fSetd : W → List W → Cs → R W := fun x ys cs => match x, ys with
  | .pt i, [y, d] => match cs[i]?, keyW y with
    | some (.dT ks ws), some k => if ks.length < LIM then (match look ks ws k with
      | some w => .ok w cs
      | none => .ok d (cs.set i (.dT (ks ++ [k]) (ws ++ [d])))) else .no
    | _, _ => .no
  | _, _ => .no
theorem m_setd {X : Cx} (hu : X.A.units + 64 < cLine) : XM X "dict" "dict.setdefault" "setdefault" rSetdT fSetd := ⟨PySem.F.plainAttrs_dict, PySem.F.slot_dict_setdefault, PySem.F.type_dict_setdefault, mt_setdT (by omega), fun E F B H ads cs x v xs vs Q w r rs h => by
  unfold fSetd at h
  split at h
  · rename_i i y d
    split at h
    · rename_i ks ws k hc hk
      split at h
      · rename_i hlt
        cases r with
        | pt ha =>
          obtain ⟨hb, us, hv, hl, rr⟩ := w.cell i _ _ ha hc
          cases rs with | cons r1 r2 => cases r2 with | cons r2 r3 =>
            cases r3
            obtain ⟨b, rfl, eb⟩ := keyW_ok w r1 hk
            have LR := look_rep (k := k) rr hl
            have hz : (ks.zip us).length < sizeLine := by rw [List.length_zip, ← hl, Nat.min_self]; exact Nat.lt_trans hlt lim_line
            cases e : look ks ws k with
            | some w0 =>
              rw [e] at h
              obtain ⟨v0, h0, r0⟩ := LR.1 w0 e
              refine ⟨_, b, ks.zip us, k, _, rfl, rfl, hv, eb, hz, fun v' hv' => ?_, fun z => ?_⟩
              · rw [h0] at hv'; cases hv'; exact PostV.now w r0 h
              · rw [h0] at z; cases z
            | none =>
              rw [e] at h
              have hn := LR.2 e
              refine ⟨_, b, ks.zip us, k, _, rfl, rfl, hv, eb, hz, fun v' hv' => by rw [hn] at hv'; (cases hv'), fun _ => ?_⟩
              rw [putK_new _ hn, zip_snoc hl]
              exact h B _ ads _ (Same.refl _) (List.prefix_refl _) (w.put (c := .dT (ks ++ [k]) (ws ++ [d])) ha hb ⟨hb, us ++ [_], upd_same, by simp [hl], rr.append (.cons r2 .nil)⟩) r2
      · exact h.elim
    · exact h.elim
  · exact h.elim⟩

/-! d[k] -/
def fDGet : W → W → Cs → R W := fun x y cs => match x with
  | .pt i => match cs[i]?, keyW y with
    | some (.dT ks ws), some k => match look ks ws k with
      | some w => .ok w cs
      | none => .no
    | _, _ => .no
  | _ => .no
def rDGet : R2 := fun x y H Q => ∃ a v, x = .ref a ∧ DGet H a y (some v) ∧ Q v H
theorem d2_dget {K : Fg} : Den2 K rDGet fDGet := fun E F B H ads cs x y v u Q w r1 r2 h => by
  unfold fDGet at h
  split at h
  · rename_i i
    split at h
    · rename_i ks ws k hc hk
      split at h
      · rename_i w0 e
        cases r1 with
        | pt ha =>
          obtain ⟨hb, us, hv, hl, rr⟩ := w.cell i _ _ ha hc
          obtain ⟨b, rfl, eb⟩ := keyW_ok w r2 hk
          obtain ⟨v0, h0, r0⟩ := (look_rep (k := k) rr hl).1 w0 e
          refine ⟨_, v0, rfl, ?_, PostV.now w r0 h⟩
          have := DGet.t (k := k) hv eb
          rw [h0] at this
          exact this
      · exact h.elim
    · exact h.elim
  · exact h.elim
theorem x_dget {X : Cx} {E : XK} {o i : Expr} {pos : Pos} {td ty : TE} {md my : ME} (hu : X.A.units + 64 < cLine) (ho : XE X E o td md) (hi : XE X E i ty my) (hs : NoSl i := by exact fun _ _ => rfl) : XE X E (.Subscript o i pos) (tDGet td ty) (mOp fDGet md my) :=
  ⟨pe_dget (by omega) ho.pe hi.pe hs, den_op (r := rDGet) ho.den hi.den d2_dget⟩

/-! [k for k in d] -/
def mKeysT (b : Bool) (i j : Nat) : ME := fun ρ cs => (mVar j ρ cs).bind fun x cs1 => match x with
  | .pt a => match cs1[a]? with
    | some (.dT ks _) => if ks.length < LIM ∧ i < ρ.length then newL b (ks.map fun k => .cl (.tup (k.map keyT))) cs1 else .no
    | _ => .no
  | _ => .no
theorem wok_keys {K : Fg} {F B H : Hp} {ads : List Addr} {cs : Cs} (w : Wok K F B H ads cs) {q : Addr} {k : List Key} (hq : H q = some (.tup (k.map kV))) : ∃ B', Same B B' ∧ Wok K F B' H ads cs ∧ Rep K B' (.ref q) (.tup (k.map keyT)) := by
  have sB : Same B (upd B q (.tup (k.map kV))) := fun b u e => by
    by_cases h : b = q
    · subst h; have := w.same _ _ e; rw [hq] at this; cases this; exact upd_same
    · rw [upd_ne h]; exact e
  refine ⟨upd B q (.tup (k.map kV)), sB, w.grow sB (fun b u e => ?_) (Same.refl _) (fun a o h1 h2 => ?_), .tup upd_same (reps_key k)⟩
  · by_cases h : b = q
    · subst h; rw [upd_same] at e; cases e; exact hq
    · rw [upd_ne h] at e; exact w.same _ _ e
  · by_cases h : a = q
    · subst h; rw [hq] at h2; cases h2; exact .inr ⟨_, rfl⟩
    · rw [upd_ne h]; exact .inl h1
theorem den_keysT {K : Fg} {E : XK} {b : Bool} {i j : Nat} : DenE K E (tLockE (tLc (iKeys (tVar j)) (gName i) tYes (tVar i) [i])) (mKeysT b i j) := fun F B H ads cs σ ρ Q w l h => by
  unfold mKeysT mVar at h
  split at h
  · rename_i x ex
    dsimp only [R.bind] at h
    obtain ⟨v, hv, rv⟩ := l.at_ j x ex
    split at h
    · rename_i a
      split at h
      · rename_i ks ws hc
        split at h
        · rename_i hlt
          cases rv with
          | @pt _ d ha =>
            obtain ⟨hb, us, hd, hl, rr⟩ := w.cell a _ _ ha hc
            refine ⟨d, _, hd, True.intro, fun od => ?_⟩
            refine ⟨_, hv, d, od, rfl, .inr ⟨ks.zip us, upd_same, fun D hD => ?_⟩⟩
            have dD : D ≠ d := fun e => by rw [e, upd_same] at hD; cases hD
            have hD0 : H D = none := by rw [upd_ne dD] at hD; exact hD
            have fD : F D = none := w.frm.free hD0
            have hil : i < (wipe σ [i]).length := by rw [wipe_length, l.len]; exact hlt.2
            have hzl : (ks.zip us).length = ks.length := by rw [List.length_zip, ← hl, Nat.min_self]
            refine lc_it walk_keysT (fun n H' => H' d = some (.frz od (.dT (ks.zip us))) ∧ ∃ B' vacc, Same B B' ∧ Wok K (upd F D (.lst vacc)) B' (upd H' d (.dT (ks.zip us))) ads cs ∧ Reps K B' vacc ((ks.take n).map fun k => .tup (k.map keyT)))
              ⟨by rw [upd_ne dD.symm]; exact upd_same, B, [], Same.refl _, ?_, .nil⟩ (fun _ _ _ p => p.1) ?_ ?_
            · have e : upd (upd (upd H d (.frz od (.dT (ks.zip us)))) D (.lst [])) d (.dT (ks.zip us)) = upd H D (.lst []) := by
                funext z
                by_cases h1 : z = d
                · subst h1; rw [upd_same, upd_ne dD.symm, hd]
                · rw [upd_ne h1]
                  by_cases h2 : z = D
                  · subst h2; rw [upd_same, upd_same]
                  · rw [upd_ne h2, upd_ne h1, upd_ne h2]
              rw [e]; exact w.foreign hD0
            · rintro n x H1 H2 hn ⟨h1, B', vacc, s', w', ra⟩ ⟨rfl, k, v, q, hk, rfl, hq⟩
              have qd : q ≠ d := fun e => by rw [e, h1] at hq; cases hq
              obtain ⟨B2, s2, w2, rk⟩ := wok_keys w' (q := q) (k := k) (by rw [upd_ne qd]; exact hq)
              refine ⟨by simp [wipe], ?_⟩
              unfold tYes tVar; dsimp only
              rw [if_pos rfl]
              refine ⟨.ref q, List.getElem?_set_self hil, vacc, ?_, ?_, ?_, B2, vacc ++ [.ref q], s'.trans s2, ?_, ?_⟩
              · have := w2.apart.1; rw [upd_ne dD] at this; exact this
              · rw [ra.length, List.length_map, List.length_take]; exact Nat.lt_of_le_of_lt (Nat.min_le_right _ _) (Nat.lt_trans hlt.1 lim_line)
              · rw [upd_ne dD.symm]; exact h1
              · have := w2.refor (vo' := vacc ++ [.ref q])
                have e : upd (upd H2 d (.dT (ks.zip us))) D (.lst (vacc ++ [.ref q])) = upd (upd H2 D (.lst (vacc ++ [.ref q]))) d (.dT (ks.zip us)) := by
                  funext z
                  by_cases h1 : z = d
                  · subst h1; rw [upd_same, upd_ne dD.symm, upd_same]
                  · rw [upd_ne h1]
                    by_cases h2 : z = D
                    · subst h2; rw [upd_same, upd_same]
                    · rw [upd_ne h2, upd_ne h1, upd_ne h2]
                rw [e] at this; exact this
              · have e : ks[n]? = some k := by
                  have := hk
                  rw [List.getElem?_zip_eq_some] at this
                  exact this.1
                rw [List.take_add_one, e, List.map_append]
                exact (ra.mono s2).append (.cons rk .nil)
            · rintro H1 ⟨h1, B', vacc, s', w', ra⟩
              refine ⟨h1, ?_⟩
              rw [hzl, List.take_length] at ra
              refine adopt_fin (b := b) w' fD (ws := ks.map fun k => .cl (.tup (k.map keyT))) ?_ (wpR_mono h (fun _ _ h => h.mono s' (List.prefix_refl _)) fun _ _ h => h.mono s' (List.prefix_refl _))
              have := RepWs.ofT (ads := ads) ra
              rw [List.map_map] at this
              exact this
        · exact h.elim
      · exact h.elim
    · exact h.elim
  · exact h.elim
theorem x_keysT (b : Bool) {X : Cx} {E : XK} {scope : Scope} {i j : Nat} {x : Str} {pos p1 : Pos} {iter elt : Expr} (hc : X.calm = true) (hN : X.N.Nodup) (hi : XE X E iter (tVar j) (mVar j)) (ok : BlkOk X.N X.env.scope scope [(x, i)])
    (hg : ∀ (s : Shared) (H : Hp) (C : Addr) (cl : List (Str × Addr)) (fp : List Addr), XG (X.blk s H scope (compEnvC scope cl C X.env) fp) E0x (.Name x p1) (gName i) (mgName i))
    (he : ∀ (s : Shared) (H : Hp) (C : Addr) (cl : List (Str × Addr)) (fp : List Addr), XE (X.blk s H scope (compEnvC scope cl C X.env) fp) E0x elt (tVar i) (mVar i)) (hs : ∀ x, foldedSetIterable iter X.env x = pure x := by intro _; rfl) :
    XE X E (.ListComp elt [⟨.Name x p1, iter, [], 0⟩] scope pos) (tLockE (tLc (iKeys (tVar j)) (gName i) tYes (tVar i) [i])) (mKeysT b i j) :=
  ⟨pe_lock (pe_lc hc hN (pi_keys hi.pe) ok (fun s H C cl fp => (hg s H C cl fp).pg) (fun s H C cl fp => pts_nil) (fun s H C cl fp => (he s H C cl fp).pe) hs), den_keysT⟩
end G

/-! The tree layer, 12: comprehensions whose parts have any denotation. -/
namespace G
open PySem L2 RZ PyProof.Rows

def teOf (K : Fg) (E : XK) (m : ME) : TE := fun σ H Q => ∃ F B ads cs ρ, Wok K F B H ads cs ∧ OkL K B ads σ ρ ∧ wpR (m ρ cs) (PostV K F B ads Q) (PostE K F B ads E)
def ttOf (K : Fg) (E : XK) (m : MB) : TT := fun σ H Q => ∃ F B ads cs ρ, Wok K F B H ads cs ∧ OkL K B ads σ ρ ∧ wpR (m ρ cs) (PostB K F B ads Q) (PostE K F B ads E)
theorem den_teOf {K : Fg} {E : XK} {m : ME} : DenE K E (teOf K E m) m := fun F B H ads cs σ ρ Q w l h => ⟨F, B, ads, cs, ρ, w, l, h⟩
theorem den_ttOf {K : Fg} {E : XK} {m : MB} : DenT K E (ttOf K E m) m := fun F B H ads cs σ ρ Q w l h => ⟨F, B, ads, cs, ρ, w, l, h⟩
theorem XE.pe_of {X : Cx} {E : XK} {e : Expr} {te : TE} {m : ME} (h : XE X E e te m) : PE X e (teOf (fx X) E m) :=
  ⟨fun pins s σ H Q I ⟨F, B, ads, cs, ρ, w, l, q⟩ => h.pe.run pins s σ H Q I (h.den F B H ads cs σ ρ Q w l q)⟩
theorem XP.pt_of {X : Cx} {E : XK} {ifs : List Expr} {te : TT} {m : MB} (h : XP X E ifs te m) : PTs X ifs (ttOf (fx X) E m) :=
  ⟨fun pins s σ H Q I ⟨F, B, ads, cs, ρ, w, l, q⟩ => h.pt.run pins s σ H Q I (h.den F B H ads cs σ ρ Q w l q)⟩
section
variable {X : Cx} {E : XK} {elt tg iter : Expr} {ifs : List Expr} {scope : Scope} {own : List (Str × Nat)} {pos : Pos} {wi : TI} {mi : MI} {g : TG} {mg : MG} {mt : MB} {me : ME}
theorem y_lc (b : Bool) (hc : X.calm = true) (hN : X.N.Nodup) (hi : XI X E tg iter wi mi) (ok : BlkOk X.N X.env.scope scope own)
    (hg : ∀ (s : Shared) (H : Hp) (C : Addr) (cl : List (Str × Addr)) (fp : List Addr), XG (X.blk s H scope (compEnvC scope cl C X.env) fp) E0x tg g mg) (fr : Fr (own.map (·.2)) g)
    (ht : ∀ (s : Shared) (H : Hp) (C : Addr) (cl : List (Str × Addr)) (fp : List Addr), ∃ tt, XP (X.blk s H scope (compEnvC scope cl C X.env) fp) E0x ifs tt mt)
    (he : ∀ (s : Shared) (H : Hp) (C : Addr) (cl : List (Str × Addr)) (fp : List Addr), ∃ te, XE (X.blk s H scope (compEnvC scope cl C X.env) fp) E0x elt te me) (hs : ∀ x, foldedSetIterable iter X.env x = pure x := by intro _; rfl) :
    XE X E (.ListComp elt [⟨tg, iter, ifs, 0⟩] scope pos) (tLc wi g (ttOf (fx X) E0x mt) (teOf (fx X) E0x me) (own.map (·.2))) (mLc b (own.map (·.2)) mi mg mt me) :=
  x_lc b hc hN hi ok hg fr (fun s H C cl fp => by obtain ⟨tt, h⟩ := ht s H C cl fp; exact ⟨h.pt_of, den_ttOf⟩) (fun s H C cl fp => by obtain ⟨tt, h⟩ := he s H C cl fp; exact ⟨h.pe_of, den_teOf⟩) hs
theorem y_setLc (b : Bool) {i : Nat} {y : Str} {py spos : Pos} (hc : X.calm = true) (hN : X.N.Nodup) (hi : XI X E tg iter wi mi) (ok : BlkOk X.N X.env.scope scope own)
    (hg : ∀ (s : Shared) (H : Hp) (C : Addr) (cl : List (Str × Addr)) (fp : List Addr), XG (X.blk s H scope (compEnvC scope cl C X.env) fp) E0x tg g mg) (fr : Fr (own.map (·.2)) g)
    (ht : ∀ (s : Shared) (H : Hp) (C : Addr) (cl : List (Str × Addr)) (fp : List Addr), ∃ tt, XP (X.blk s H scope (compEnvC scope cl C X.env) fp) E0x ifs tt mt)
    (he : ∀ (s : Shared) (H : Hp) (C : Addr) (cl : List (Str × Addr)) (fp : List Addr), ∃ te, XE (X.blk s H scope (compEnvC scope cl C X.env) fp) E0x elt te me)
    (hsw : swapsWith (.ListComp elt [⟨tg, iter, ifs, 0⟩] scope pos) (some (.Name y py)) spos.line X.env = pure true) (hy : X.N[i]? = some y := by rfl) (hyl : X.env.scope.names.lookup y = some .local := by rfl) (hs : ∀ x, foldedSetIterable iter X.env x = pure x := by intro _; rfl) :
    XS X E (.Assign [.Name y py] (.ListComp elt [⟨tg, iter, ifs, 0⟩] scope pos) spos) (tAsg (tLc wi g (ttOf (fx X) E0x mt) (teOf (fx X) E0x me) (own.map (·.2))) (gName i)) (sAsg (mLc b (own.map (·.2)) mi mg mt me) (mgName i)) :=
  s_setLc b hc hN hi ok hg fr (fun s H C cl fp => by obtain ⟨tt, h⟩ := ht s H C cl fp; exact ⟨h.pt_of, den_ttOf⟩) (fun s H C cl fp => by obtain ⟨tt, h⟩ := he s H C cl fp; exact ⟨h.pe_of, den_teOf⟩) hsw hy hyl hs
theorem yg_tup {K : PySem.W.Frag} {es : List Expr} {k : Nat} {t : TGs} {b : MGs} {n : Nat} (hK : X.K = K) (hc : X.calm = true) (h : XGs X E es t b) (hn : (assignEach es X.env).length = n := by rfl) (hst : (assignEach es X.env).findIdx? (·.1) = none := by rfl) : XG X E (.Tuple es k pos) (gTup K n t) (mgTup n b) := by
  subst hK; exact xg_tup hc h hn hst
end
end G

/-! The tree layer, 13: reckoning with meanings. -/
namespace G
open PySem L2 RZ PyProof.Rows

theorem bindM {α β : Type} {r : R α} {k : α → Cs → R β} : r.bind k = match r with
  | .no => .no
  | .ok a cs => k a cs
  | .ex e cs => .ex e cs := by cases r <;> rfl

theorem frz_cl (n : Nat) (t : T) (cs : Cs) : frz n (.cl t) cs = some (t, cs) := by cases n <;> rfl
theorem frzs_cls (n : Nat) : ∀ (ts : List T) (cs : Cs), frzs (frz n) (ts.map .cl) cs = some (ts, cs)
  | [], _ => rfl
  | t :: ts, cs => by simp only [List.map_cons, frzs, frz_cl, frzs_cls n ts cs]
theorem frz_lst {n i : Nat} {ts : List T} {cs : Cs} (h : cs[i]? = some (.lst (ts.map .cl))) : frz (n + 1) (.pt i) cs = some (.lst ts, cs.set i (.fz (.lst ts))) := by
  simp only [frz, frzC, h, frzs_cls]
theorem frz_fz {n i : Nat} {t : T} {cs : Cs} (h : cs[i]? = some (.fz t)) : frz (n + 1) (.pt i) cs = some (t, cs) := by
  simp only [frz, frzC, h]
theorem gx_ix {n k : Nat} (h : k < n) : ixN n (k : Int) = some k := by
  unfold ixN
  rw [if_pos (by omega), if_pos (by omega)]
  rfl
theorem gx_nat {α : Type} (xs : List α) (k : Nat) : atI xs (k : Int) = xs[k]? := by
  unfold atI
  by_cases h : k < xs.length
  · rw [gx_ix h]; rfl
  · unfold ixN
    rw [if_pos (by omega), if_neg (by omega), List.getElem?_eq_none (by omega)]
    rfl
theorem gx_lit {α : Type} (xs : List α) (k : Nat) : atI xs (OfNat.ofNat k : Int) = xs[k]? := gx_nat xs k
theorem gx_last {α : Type} (xs : List α) : atI xs (-1) = xs.getLast? := by
  unfold atI ixN
  rw [if_neg (by omega)]
  cases xs with
  | nil => rfl
  | cons x xs =>
    rw [if_pos (by simp only [List.length_cons]; omega)]
    have e : ((-1 : Int) + ((x :: xs).length : Nat)).toNat = (x :: xs).length - 1 := by simp only [List.length_cons]; omega
    simp only [Option.bind_some, e]
    rw [List.getLast?_eq_getElem?]

/-- what is reckoned without thinking -/
theorem ev :
    (∀ (α : Type) (a : α) (cs : Cs), (R.ok a cs).noEx = R.ok a cs) ∧
    (∀ i ρ cs, mVar i ρ cs = match ρ[i]? with | some (some w) => R.ok w cs | _ => R.no) ∧
    (∀ t ρ cs, mC t ρ cs = R.ok (W.cl t) cs) ∧
    (∀ ρ cs, mNil ρ cs = R.ok [] cs) ∧
    (∀ a b ρ cs, mCons a b ρ cs = (a ρ cs).bind fun x cs1 => (b ρ cs1).bind fun xs cs2 => R.ok (x :: xs) cs2) ∧
    (∀ f a b ρ cs, mOp f a b ρ cs = (a ρ cs).bind fun x cs1 => (b ρ cs1).bind fun y cs2 => f x y cs2) ∧
    (∀ f a ρ cs, mUn f a ρ cs = (a ρ cs).bind f) ∧
    (∀ m ρ cs, mTup m ρ cs = (m ρ cs).bind fun ws cs1 => if ws.length ≤ LIM then newT ws cs1 else R.no) ∧
    (∀ b m ρ cs, mLst b m ρ cs = (m ρ cs).bind fun ws cs1 => if ws.length ≤ LIM then newL b ws cs1 else R.no) ∧
    (∀ b m lo hi ρ cs, mSl b m lo hi ρ cs = (m ρ cs).bind fun x cs1 => (lo ρ cs1).bind fun l cs2 => (hi ρ cs2).bind fun u cs3 => fSl b x l u cs3) ∧
    (∀ ρ cs, mNo ρ cs = R.ok none cs) ∧
    (∀ m ρ cs, mSome m ρ cs = (m ρ cs).bind fun x cs1 => match x with | W.cl (T.int i) => R.ok (some i) cs1 | _ => R.no) ∧
    (∀ m ρ cs, mTru m ρ cs = (m ρ cs).bind fun x cs1 => match tru cs1 x with | some b => R.ok b cs1 | none => R.no) ∧
    (∀ m ρ cs, mTst m ρ cs = (m ρ cs).bind fun x cs1 => match x with | W.cl (T.bl b) => R.ok b cs1 | _ => R.no) ∧
    (∀ m ρ cs, mNot m ρ cs = (m ρ cs).bind fun b cs1 => R.ok (!b) cs1) ∧
    (∀ m m' ρ cs, mAnd m m' ρ cs = (m ρ cs).bind fun b cs1 => if b = true then m' ρ cs1 else R.ok false cs1) ∧
    (∀ m m' ρ cs, mOr m m' ρ cs = (m ρ cs).bind fun b cs1 => if b = true then R.ok true cs1 else m' ρ cs1) ∧
    (∀ m a b ρ cs, mIf m a b ρ cs = (m ρ cs).bind fun c cs1 => if c = true then a ρ cs1 else b ρ cs1) ∧
    (∀ a b ρ cs, mAndV a b ρ cs = (a ρ cs).bind fun x cs1 => match x with | W.cl (T.bl c) => (if c = true then b ρ cs1 else R.ok (W.cl (T.bl false)) cs1) | _ => R.no) ∧
    (∀ a b ρ cs, mOrV a b ρ cs = (a ρ cs).bind fun x cs1 => match x with | W.cl (T.bl c) => (if c = true then R.ok (W.cl (T.bl true)) cs1 else b ρ cs1) | _ => R.no) ∧
    (∀ a ρ cs, mNotV a ρ cs = (a ρ cs).bind fun x cs1 => match x with | W.cl (T.bl c) => R.ok (W.cl (T.bl (!c))) cs1 | _ => R.no) ∧
    (∀ g m ρ cs, mCall g m ρ cs = (m ρ cs).bind g) ∧
    (∀ g m ρ cs, mCallD g m ρ cs = (m ρ cs).bind fun ws cs1 => callT g ws cs1) ∧
    (∀ m ρ cs, mSeq m ρ cs = (m ρ cs).bind itemsT) ∧
    (∀ m ρ cs, mRng1 m ρ cs = (m ρ cs).bind fun ws cs1 => match ws with | [W.cl (T.int j)] => (if inB 3999999999999 j = true then R.ok (rangeT 0 j.toNat) cs1 else R.no) | _ => R.no) ∧
    (∀ m ρ cs, mRng2 m ρ cs = (m ρ cs).bind fun ws cs1 => match ws with | [W.cl (T.int i), W.cl (T.int j)] => (if inB 3999999999999 i = true ∧ inB 3999999999999 j = true then R.ok (rangeT i (j - i).toNat) cs1 else R.no) | _ => R.no) ∧
    (∀ i w ρ cs, mgName i w ρ cs = R.ok (ρ.set i (some w)) cs) ∧
    (∀ ρ cs, mgNil [] ρ cs = R.ok ρ cs) ∧
    (∀ a b w ws ρ cs, mgCons a b (w :: ws) ρ cs = (a w ρ cs).bind fun ρ' cs' => b ws ρ' cs') ∧
    (∀ n b ts ρ cs, mgTup n b (W.cl (T.tup ts)) ρ cs = if ts.length = n then b (ts.map W.cl) ρ cs else R.no) ∧
    (∀ a b w ρ cs, mgSub a b w ρ cs = (a ρ cs).bind fun o cs1 => (b ρ cs1).bind fun i cs2 => fSet o i w cs2 (R.ok ρ cs2)) ∧
    (∀ m g ρ cs, sAsg m g ρ cs = (m ρ cs).bind fun w cs1 => (g w ρ cs1).bind fun ρ' cs2 => R.ok (Fl.nx ρ') cs2) ∧
    (∀ m ρ cs, sExp m ρ cs = (m ρ cs).bind fun _ cs1 => R.ok (Fl.nx ρ) cs1) ∧
    (∀ m ρ cs, sRet m ρ cs = (m ρ cs).bind fun w cs1 => R.ok (Fl.rt w) cs1) ∧
    (∀ ρ cs, sRetN ρ cs = R.ok (Fl.rt (W.cl T.non)) cs) ∧
    (∀ ρ cs, sPass ρ cs = R.ok (Fl.nx ρ) cs) ∧
    (∀ ρ cs, sBrk ρ cs = R.ok (Fl.bk ρ) cs) ∧
    (∀ ρ cs, sCnt ρ cs = R.ok (Fl.ct ρ) cs) ∧
    (∀ c a b ρ cs, sIf c a b ρ cs = (c ρ cs).bind fun t cs1 => if t = true then a ρ cs1 else b ρ cs1) ∧
    (∀ a b ρ cs, sSeq a b ρ cs = (a ρ cs).bind fun f cs1 => match f with | Fl.nx ρ' => b ρ' cs1 | f => R.ok f cs1) ∧
    (∀ ρ cs, mYes ρ cs = R.ok true cs) ∧
    (∀ T f a m ρ cs, mBM T f a m ρ cs = (a ρ cs).bind fun x cs1 => if isTy T cs1 x = true then (m ρ cs1).bind fun xs cs2 => f x xs cs2 else R.no) ∧
    (∀ T f a ρ cs, mBM0 T f a ρ cs = (a ρ cs).bind fun x cs1 => if isTy T cs1 x = true then f x [] cs1 else R.no) ∧
    (∀ ρ, wipeL ρ [] = ρ) ∧ (∀ ρ v vs, wipeL ρ (v :: vs) = (wipeL ρ vs).set v none) ∧
    (∀ a b ρ cs, mMaxD a b ρ cs = (a ρ cs).bind fun x cs1 => (b ρ cs1).bind fun d cs2 => match intsW cs2 x with | some [] => R.ok d cs2 | some (n :: ns) => R.ok (W.cl (T.int (gmax (n :: ns)))) cs2 | none => R.no) ∧
    (∀ m ρ cs, mZip m ρ cs = (m ρ cs).bind fun ws cs1 => match frzs (frz 8) ws cs1 with | some ([T.lst xs, T.lst ys], cs2) => R.ok (zipTs xs ys) cs2 | some ([T.tup xs, T.tup ys], cs2) => R.ok (zipTs xs ys) cs2 | _ => R.no) ∧
    (∀ m ρ cs, mEnumerate m ρ cs = (m ρ cs).bind fun ws cs1 => match frzs (frz 8) ws cs1 with | some ([T.lst xs], cs2) => R.ok (enumFrom 0 xs) cs2 | some ([T.tup xs], cs2) => R.ok (enumFrom 0 xs) cs2 | _ => R.no) := by
  repeat' apply And.intro
  all_goals (intros; rfl)
/-- what built-in functions do with plain values -/
theorem ef :
    (∀ i j cs, fSub (W.cl (T.int i)) (W.cl (T.int j)) cs = R.ok (W.cl (T.int (i - j))) cs) ∧
    (∀ i j cs, fMod (W.cl (T.int i)) (W.cl (T.int j)) cs = if 0 < j then R.ok (W.cl (T.int (i % j))) cs else R.no) ∧
    (∀ i j cs, fDiv (W.cl (T.int i)) (W.cl (T.int j)) cs = if 0 < j ∧ inB 1073741823 j = true then R.ok (W.cl (T.int (i / j))) cs else R.no) ∧
    (∀ i j cs, fPow (W.cl (T.int i)) (W.cl (T.int j)) cs = if 0 ≤ j ∧ inB 1000000 j = true ∧ inB BMn i = true then R.ok (W.cl (T.int (i ^ j.toNat))) cs else R.no) ∧
    (∀ i j cs, fLt (W.cl (T.int i)) (W.cl (T.int j)) cs = R.ok (W.cl (T.bl (decide (i < j)))) cs) ∧
    (∀ i j cs, fLe (W.cl (T.int i)) (W.cl (T.int j)) cs = R.ok (W.cl (T.bl (decide (i ≤ j)))) cs) ∧
    (∀ i j cs, fGt (W.cl (T.int i)) (W.cl (T.int j)) cs = R.ok (W.cl (T.bl (decide (j < i)))) cs) ∧
    (∀ i j cs, fGe (W.cl (T.int i)) (W.cl (T.int j)) cs = R.ok (W.cl (T.bl (decide (j ≤ i)))) cs) ∧
    (∀ b i j cs, fAdd b (W.cl (T.int i)) (W.cl (T.int j)) cs = R.ok (W.cl (T.int (i + j))) cs) ∧
    (∀ b ts us cs, fAdd b (W.cl (T.tup ts)) (W.cl (T.tup us)) cs = if ts.length + us.length ≤ LIM then R.ok (W.cl (T.tup (ts ++ us))) cs else R.no) ∧
    (∀ b i j cs, fMul b (W.cl (T.int i)) (W.cl (T.int j)) cs = if inB BMn i = true ∨ inB BMn j = true then R.ok (W.cl (T.int (i * j))) cs else R.no) ∧
    (∀ i j cs, fEq (W.cl (T.int i)) (W.cl (T.int j)) cs = R.ok (W.cl (T.bl (decide (i = j)))) cs) ∧
    (∀ i j cs, fNe (W.cl (T.int i)) (W.cl (T.int j)) cs = R.ok (W.cl (T.bl (!decide (i = j)))) cs) ∧
    (∀ ts i cs, fIx (W.cl (T.tup ts)) (W.cl (T.int i)) cs = match atI ts i with | some t => R.ok (W.cl t) cs | none => R.no) ∧
    (∀ ts i cs, fIx (W.cl (T.lst ts)) (W.cl (T.int i)) cs = match atI ts i with | some t => R.ok (W.cl t) cs | none => R.no) ∧
    (∀ ts i cs, fIx (W.cl (T.scr ts)) (W.cl (T.int i)) cs = match atI ts i with | some t => R.ok (W.cl t) cs | none => R.no) ∧
    (∀ ts cs, fLen [W.cl (T.tup ts)] cs = R.ok (W.cl (T.int ts.length)) cs) ∧
    (∀ ts cs, fLen [W.cl (T.lst ts)] cs = R.ok (W.cl (T.int ts.length)) cs) ∧
    (∀ ts cs, fLen [W.cl (T.scr ts)] cs = R.ok (W.cl (T.int ts.length)) cs) ∧
    (∀ i cs, fInt [W.cl (T.int i)] cs = R.ok (W.cl (T.int i)) cs) ∧
    (∀ i j cs, fMax [W.cl (T.int i), W.cl (T.int j)] cs = R.ok (W.cl (T.int (if j > i then j else i))) cs) ∧
    (∀ i j cs, fMin [W.cl (T.int i), W.cl (T.int j)] cs = R.ok (W.cl (T.int (if j < i then j else i))) cs) ∧
    (∀ ts cs, itemsT (W.cl (T.lst ts)) cs = R.ok ts cs) ∧
    (∀ ts cs, itemsT (W.cl (T.tup ts)) cs = R.ok ts cs) ∧
    (∀ ts cs, itemsT (W.cl (T.scr ts)) cs = R.ok ts cs) ∧
    (∀ ts cs, fTuple [W.cl (T.tup ts)] cs = R.ok (W.cl (T.tup ts)) cs) ∧
    (∀ ts cs, fTuple [W.cl (T.lst ts)] cs = R.ok (W.cl (T.tup ts)) cs) ∧
    (∀ ts cs, fList false [W.cl (T.tup ts)] cs = R.ok (W.cl (T.lst ts)) cs) ∧
    (∀ ts cs, fList false [W.cl (T.lst ts)] cs = R.ok (W.cl (T.lst ts)) cs) ∧
    (∀ ts cs, newL false (ts.map W.cl) cs = R.ok (W.cl (T.lst ts)) cs) ∧
    (∀ ts cs, newT (ts.map W.cl) cs = R.ok (W.cl (T.tup ts)) cs) ∧
    (∀ ws cs, newL true ws cs = R.ok (W.pt cs.length) (cs ++ [Cell.lst ws])) ∧
    (∀ x cs, newL false x cs = match frzs (frz 8) x cs with | some (ts, cs') => R.ok (W.cl (T.lst ts)) cs' | none => R.no) ∧
    (∀ x cs, newT x cs = match frzs (frz 8) x cs with | some (ts, cs') => R.ok (W.cl (T.tup ts)) cs' | none => R.no) ∧
    (∀ n cs, frzs (frz n) [] cs = some ([], cs)) ∧
    (∀ n t ws cs, frzs (frz n) (W.cl t :: ws) cs = match frzs (frz n) ws cs with | none => none | some (ts, cs2) => some (t :: ts, cs2)) ∧
    (∀ g ws cs, callT g ws cs = match frzs (frz 8) ws cs with | some (ts, cs') => (match g ts with | some t => (if isSc t = true then R.ok (W.cl t) cs else R.ok (W.cl t) cs') | none => R.no) | none => R.no) ∧
    (∀ cs x, fIs false x (W.cl T.non) cs = match x with | W.cl T.non => R.ok (W.cl (T.bl true)) cs | _ => R.ok (W.cl (T.bl false)) cs) ∧
    (∀ cs x, fIs true x (W.cl T.non) cs = match x with | W.cl T.non => R.ok (W.cl (T.bl false)) cs | _ => R.ok (W.cl (T.bl true)) cs) ∧
    (∀ ts us cs, fAdd false (W.cl (T.lst ts)) (W.cl (T.lst us)) cs = if ts.length + us.length ≤ LIM then R.ok (W.cl (T.lst (ts ++ us))) cs else R.no) ∧
    (∀ ts lo hi cs, fSl false (W.cl (T.lst ts)) lo hi cs = R.ok (W.cl (T.lst (cutL ts lo hi))) cs) ∧
    (∀ ts lo hi cs, fSl false (W.cl (T.tup ts)) lo hi cs = R.ok (W.cl (T.tup (cutL ts lo hi))) cs) := by
  refine ⟨?_, ?_, ?_, ?_, ?_, ?_, ?_, ?_, ?_, ?_, ?_, ?_, ?_, ?_, ?_, ?_, ?_, ?_, ?_, ?_, ?_, ?_, ?_, ?_, ?_, ?_, ?_, ?_, ?_, ?_, ?_, ?_, ?_, ?_, ?_, ?_, ?_, ?_, ?_, ?_, ?_, ?_⟩ <;> intros
  case refine_1 => rfl
  case refine_2 => simp only [fMod, fI, decide_eq_true_eq]
  case refine_3 => simp only [fDiv, fI, decide_eq_true_eq, Bool.and_eq_true]
  case refine_4 => simp only [fPow, fI, decide_eq_true_eq, Bool.and_eq_true]
  case refine_11 => simp only [fMul, Bool.or_eq_true]
  case refine_12 i j cs => simp only [fEq, dat, peek, frz_cl, Option.map_some, T.pd, PyData.depth, PyData.eqv, Nat.zero_le, if_true]; rw [show (i == j) = decide (i = j) by rw [Bool.eq_iff_iff]; simp]
  case refine_13 i j cs => simp only [fNe, dat, peek, frz_cl, Option.map_some, T.pd, PyData.depth, PyData.eqv, Nat.zero_le, if_true]; rw [show (i == j) = decide (i = j) by rw [Bool.eq_iff_iff]; simp]
  case refine_15 ts i cs => simp only [fIx, seqS, seqL, atI_map]; cases atI ts i <;> rfl
  case refine_16 ts i cs => simp only [fIx, seqS, seqL, atI_map]; cases atI ts i <;> rfl
  case refine_18 => simp only [fLen, seqS, seqL, List.length_map]
  case refine_19 => simp only [fLen, seqS, seqL, List.length_map]
  case refine_23 => simp only [itemsT, frz_cl]
  case refine_24 => simp only [itemsT, frz_cl]
  case refine_25 => simp only [itemsT, frz_cl]
  case refine_27 => simp only [fTuple, seqS, seqL, newT, frzs_cls]
  case refine_28 => simp only [fList, newL, frzs_cls, Bool.false_eq_true, if_false]
  case refine_29 => simp only [fList, seqS, seqL, newL, frzs_cls, Bool.false_eq_true, if_false]
  case refine_30 => simp only [newL, frzs_cls, Bool.false_eq_true, if_false]
  case refine_31 => simp only [newT, frzs_cls]
  case refine_36 => simp only [frzs, frz_cl]; try rfl
  case refine_40 ts us cs => simp only [fAdd, seqL, List.length_map, newL, Bool.false_eq_true, if_false, ← List.map_append, frzs_cls]
  case refine_41 ts lo hi cs =>
    have : cutL (ts.map W.cl) lo hi = (cutL ts lo hi).map W.cl := by simp only [cutL, List.length_map, List.map_take, List.map_drop]
    simp only [fSl, seqS, seqL, newL, Bool.false_eq_true, if_false, this, frzs_cls]
  all_goals rfl

theorem el :
    (∀ (α : Type) (a : α) l, (a :: l)[0]? = some a) ∧ (∀ (α : Type) (a : α) l n, (a :: l)[n + 1]? = l[n]?) ∧ (∀ (α : Type) (a b : α) l, (a :: l).set 0 b = b :: l) ∧ (∀ (α : Type) (a b : α) l n, (a :: l).set (n + 1) b = a :: l.set n b) ∧
    (∀ (α : Type) (a : α) l, (a :: l).length = l.length + 1) ∧ (∀ (α : Type), ([] : List α).length = 0) ∧ (∀ (α β : Type) (f : α → β) a l, (a :: l).map f = f a :: l.map f) ∧ (∀ (α β : Type) (f : α → β), [].map f = []) ∧
    (∀ cs, tru cs (W.cl T.non) = some false) ∧ (∀ cs b, tru cs (W.cl (T.bl b)) = some b) ∧ (∀ cs i, tru cs (W.cl (T.int i)) = some (i != 0)) ∧ (∀ cs ts, tru cs (W.cl (T.tup ts)) = some (!ts.isEmpty)) ∧ (∀ cs ts, tru cs (W.cl (T.lst ts)) = some (!ts.isEmpty)) ∧
    (∀ (α : Type) (a : α) l, (a :: l).isEmpty = false) ∧ (∀ (α : Type), ([] : List α).isEmpty = true) ∧ (!false) = true ∧ (!true) = false ∧ (∀ (α : Type) (a : α) (p : Prop), (a = a) = True) ∧
    (∀ i cs, fNeg (W.cl (T.int i)) cs = R.ok (W.cl (T.int (-i))) cs) ∧ (∀ i, isSc (T.int i) = true) ∧ (∀ ts, isSc (T.tup ts) = false) ∧ (∀ ts, isSc (T.lst ts) = false) ∧ (∀ b, isSc (T.bl b) = true) ∧ isSc T.non = true ∧ (∀ α (xs : List α), atI xs (-1) = xs.getLast?) ∧ (∀ α (xs : List α), atI xs 0 = xs[0]?) ∧ (∀ α (xs : List α), atI xs 1 = xs[1]?) ∧
    ((false = true) = False) ∧ ((true = true) = True) ∧ (∀ p : Prop, (True ∧ p) = p) ∧ (∀ p : Prop, (p ∧ True) = p) ∧ (∀ p : Prop, (True ∨ p) = True) ∧ (∀ p : Prop, (p ∨ True) = True) ∧ (decide True = true) ∧ (decide False = false) ∧ (∀ b, (true && b) = b) ∧ (∀ b, (b && true) = b) ∧ (∀ b, (true || b) = true) ∧ (∀ b, (b || true) = true) := by
  repeat' apply And.intro
  all_goals intros
  all_goals first | rfl | exact gx_last _ | exact gx_nat _ 0 | exact gx_nat _ 1 | (rename_i ts; cases ts <;> rfl) | exact eq_self _ | simp
theorem run_rt {n : Nat} {mb : MS} {ts : List T} {ρ : Loc} {w : W} {cs cs' : Cs} {t : T} (hs : startL n ts = ρ) (h : mb ρ [] = .ok (.rt w) cs) (hf : frz 8 w cs = some (t, cs')) : runT n mb ts = some t := by
  subst hs; simp only [runT, h, hf, Option.map_some]
theorem run_cl {n : Nat} {mb : MS} {ts : List T} {ρ : Loc} {cs : Cs} {t : T} (hs : startL n ts = ρ) (h : mb ρ [] = .ok (.rt (.cl t)) cs) : runT n mb ts = some t := run_rt hs h (frz_cl _ _ _)
end G

/-! The tree layer, 14: loops and comprehensions, reckoned with. -/
namespace G
open PySem L2 RZ PyProof.Rows

/-- a loop's one step -/
def stepF (mg : MG) (mb : MS) (t : T) (ρ : Loc) (cs : Cs) : R Fl := (mg (.cl t) ρ cs).bind fun ρ1 cs1 => mb ρ1 cs1
theorem forGo_cons {mg : MG} {mb : MS} {t : T} {ts : List T} {ρ : Loc} {cs : Cs} : forGo mg mb (t :: ts) ρ cs = (stepF mg mb t ρ cs).bind fun f cs2 => match f with
    | .nx ρ2 => forGo mg mb ts ρ2 cs2
    | .ct ρ2 => forGo mg mb ts ρ2 cs2
    | .bk ρ2 => .ok (.nx ρ2) cs2
    | .rt w => .ok (.rt w) cs2 := by
  rw [forGo, stepF]
  cases mg (.cl t) ρ cs <;> rfl
theorem for_ixB {mg : MG} {mb : MS} {ts : List T} (I : Nat → Loc → Cs → Prop) (P : Loc → Cs → Prop)
    (hs : ∀ i t ρ cs, ts[i]? = some t → I i ρ cs → (∃ ρ' cs', stepF mg mb t ρ cs = .ok (.nx ρ') cs' ∧ I (i + 1) ρ' cs') ∨ (∃ ρ' cs', stepF mg mb t ρ cs = .ok (.bk ρ') cs' ∧ P ρ' cs'))
    (hd : ∀ ρ cs, I ts.length ρ cs → P ρ cs) {ρ : Loc} {cs : Cs} (h0 : I 0 ρ cs) : ∃ ρ' cs', forGo mg mb ts ρ cs = .ok (.nx ρ') cs' ∧ P ρ' cs' := by
  induction ts generalizing I ρ cs with
  | nil => exact ⟨ρ, cs, rfl, hd _ _ h0⟩
  | cons t ts ih =>
    rw [forGo_cons]
    rcases hs 0 t ρ cs rfl h0 with ⟨ρ1, cs1, e, h1⟩ | ⟨ρ1, cs1, e, h1⟩
    · rw [e]
      exact ih (fun i => I (i + 1)) (fun i t ρ cs hi => hs (i + 1) t ρ cs hi) (fun ρ cs h => hd ρ cs h) h1
    · rw [e]
      exact ⟨ρ1, cs1, rfl, h1⟩
theorem for_ix {mg : MG} {mb : MS} {ts : List T} (I : Nat → Loc → Cs → Prop)
    (hs : ∀ i t ρ cs, ts[i]? = some t → I i ρ cs → ∃ ρ' cs', stepF mg mb t ρ cs = .ok (.nx ρ') cs' ∧ I (i + 1) ρ' cs')
    {ρ : Loc} {cs : Cs} (h0 : I 0 ρ cs) : ∃ ρ' cs', forGo mg mb ts ρ cs = .ok (.nx ρ') cs' ∧ I ts.length ρ' cs' :=
  for_ixB I (I ts.length) (fun i t ρ cs h1 h2 => .inl (hs i t ρ cs h1 h2)) (fun _ _ h => h) h0
theorem rangeT_len (lo : Int) (n : Nat) : (rangeT lo n).length = n := by simp [rangeT]
theorem rangeT_get {lo : Int} {n i : Nat} {t : T} (h : (rangeT lo n)[i]? = some t) : i < n ∧ t = .int (lo + (i : Nat)) := by
  unfold rangeT at h
  rw [List.getElem?_map] at h
  by_cases hi : i < n
  · rw [List.getElem?_range hi] at h
    exact ⟨hi, (Option.some.inj h).symm⟩
  · rw [List.getElem?_eq_none (by simpa using hi)] at h; cases h
theorem for_rng {mg : MG} {mb : MS} {lo : Int} {n : Nat} (I : Nat → Loc → Cs → Prop)
    (hs : ∀ i ρ cs, i < n → I i ρ cs → ∃ ρ' cs', stepF mg mb (.int (lo + (i : Nat))) ρ cs = .ok (.nx ρ') cs' ∧ I (i + 1) ρ' cs')
    {ρ : Loc} {cs : Cs} (h0 : I 0 ρ cs) : ∃ ρ' cs', forGo mg mb (rangeT lo n) ρ cs = .ok (.nx ρ') cs' ∧ I n ρ' cs' := by
  have := for_ix (mg := mg) (mb := mb) (ts := rangeT lo n) I (fun i t ρ cs h1 h2 => by
    obtain ⟨hi, rfl⟩ := rangeT_get h1
    exact hs i ρ cs hi h2) h0
  rwa [rangeT_len] at this
theorem for_rngB {mg : MG} {mb : MS} {lo : Int} {n : Nat} (I : Nat → Loc → Cs → Prop) (P : Loc → Cs → Prop)
    (hs : ∀ i ρ cs, i < n → I i ρ cs → (∃ ρ' cs', stepF mg mb (.int (lo + (i : Nat))) ρ cs = .ok (.nx ρ') cs' ∧ I (i + 1) ρ' cs') ∨ (∃ ρ' cs', stepF mg mb (.int (lo + (i : Nat))) ρ cs = .ok (.bk ρ') cs' ∧ P ρ' cs'))
    (hd : ∀ ρ cs, I n ρ cs → P ρ cs) {ρ : Loc} {cs : Cs} (h0 : I 0 ρ cs) : ∃ ρ' cs', forGo mg mb (rangeT lo n) ρ cs = .ok (.nx ρ') cs' ∧ P ρ' cs' :=
  for_ixB I P (fun i t ρ cs h1 h2 => by
    obtain ⟨hi, rfl⟩ := rangeT_get h1
    exact hs i ρ cs hi h2) (by rw [rangeT_len]; exact hd) h0

theorem for_rng0 {mg : MG} {mb : MS} {n : Nat} (I : Nat → Loc → Cs → Prop)
    (hs : ∀ i ρ cs, i < n → I i ρ cs → ∃ ρ' cs', stepF mg mb (.int (i : Nat)) ρ cs = .ok (.nx ρ') cs' ∧ I (i + 1) ρ' cs')
    {ρ : Loc} {cs : Cs} (h0 : I 0 ρ cs) : ∃ ρ' cs', forGo mg mb (rangeT 0 n) ρ cs = .ok (.nx ρ') cs' ∧ I n ρ' cs' :=
  for_rng I (fun i ρ cs hi h => by rw [Int.zero_add]; exact hs i ρ cs hi h) h0
theorem for_rng0B {mg : MG} {mb : MS} {n : Nat} (I : Nat → Loc → Cs → Prop) (P : Loc → Cs → Prop)
    (hs : ∀ i ρ cs, i < n → I i ρ cs → (∃ ρ' cs', stepF mg mb (.int (i : Nat)) ρ cs = .ok (.nx ρ') cs' ∧ I (i + 1) ρ' cs') ∨ (∃ ρ' cs', stepF mg mb (.int (i : Nat)) ρ cs = .ok (.bk ρ') cs' ∧ P ρ' cs'))
    (hd : ∀ ρ cs, I n ρ cs → P ρ cs) {ρ : Loc} {cs : Cs} (h0 : I 0 ρ cs) : ∃ ρ' cs', forGo mg mb (rangeT 0 n) ρ cs = .ok (.nx ρ') cs' ∧ P ρ' cs' :=
  for_rngB I P (fun i ρ cs hi h => by rw [Int.zero_add]; exact hs i ρ cs hi h) hd h0

theorem sfor_ok {mi : MI} {mg : MG} {mb : MS} {ρ : Loc} {cs cs1 : Cs} {ts : List T} {r : R Fl} (hi : mi ρ cs = .ok ts cs1) (hf : forGo mg mb ts ρ cs1 = r) : sFor mi mg mb ρ cs = r := by
  unfold sFor; rw [hi]; exact hf

/-! comprehensions -/
theorem lc_go {mg : MG} {mt : MB} {me : ME} {ρ : Loc} {cs : Cs} (f : T → T) (p : T → Bool) : ∀ (ts : List T) (acc : List W),
    (∀ t ∈ ts, ∃ ρ', mg (.cl t) ρ cs = .ok ρ' cs ∧ mt ρ' cs = .ok (p t) cs ∧ (p t = true → me ρ' cs = .ok (.cl (f t)) cs)) → acc.length + ts.length ≤ LIM →
    lcGo mg mt me ρ ts acc cs = .ok (acc ++ ((ts.filter p).map f).map W.cl) cs
  | [], acc, _, _ => by simp [lcGo]
  | t :: ts, acc, h, hl => by
    obtain ⟨ρ', h1, h2, h3⟩ := h t (List.mem_cons_self)
    simp only [List.length_cons] at hl
    have ih := fun acc' h' => lc_go f p ts acc' (fun t ht => h t (List.mem_cons_of_mem _ ht)) h'
    unfold lcGo
    rw [h1]
    show (mt ρ' cs).noEx.bind _ = _
    rw [h2]
    show (if p t = true then _ else _) = _
    cases hp : p t with
    | false =>
      rw [if_neg Bool.false_ne_true, List.filter_cons_of_neg (by simp [hp])]
      exact ih acc (by omega)
    | true =>
      rw [if_pos rfl, h3 hp]
      show (if acc.length < LIM then _ else _) = _
      rw [if_pos (by omega), List.filter_cons_of_pos hp, ih _ (by simp only [List.length_append, List.length_cons, List.length_nil]; omega)]
      simp
theorem mlc_ok {vs : List Nat} {mi : MI} {mg : MG} {mt : MB} {me : ME} {ρ : Loc} {cs cs1 : Cs} {ts : List T} (f : T → T) (p : T → Bool) (hi : mi ρ cs = .ok ts cs1) (hl : ts.length ≤ LIM)
    (h : ∀ t ∈ ts, ∃ ρ', mg (.cl t) (wipeL ρ vs) cs1 = .ok ρ' cs1 ∧ mt ρ' cs1 = .ok (p t) cs1 ∧ (p t = true → me ρ' cs1 = .ok (.cl (f t)) cs1)) :
    mLc false vs mi mg mt me ρ cs = .ok (.cl (.lst ((ts.filter p).map f))) cs1 := by
  unfold mLc
  rw [hi]
  show (lcGo mg mt me (wipeL ρ vs) ts [] cs1).bind _ = _
  rw [lc_go f p ts [] h (by simpa using hl)]
  show newL false ([] ++ _) cs1 = _
  rw [List.nil_append]
  simp only [newL, frzs_cls, Bool.false_eq_true, if_false]
theorem mlc_own {vs : List Nat} {mi : MI} {mg : MG} {mt : MB} {me : ME} {ρ : Loc} {cs cs1 : Cs} {ts : List T} (f : T → T) (p : T → Bool) (hi : mi ρ cs = .ok ts cs1) (hl : ts.length ≤ LIM)
    (h : ∀ t ∈ ts, ∃ ρ', mg (.cl t) (wipeL ρ vs) cs1 = .ok ρ' cs1 ∧ mt ρ' cs1 = .ok (p t) cs1 ∧ (p t = true → me ρ' cs1 = .ok (.cl (f t)) cs1)) :
    mLc true vs mi mg mt me ρ cs = .ok (.pt cs1.length) (cs1 ++ [.lst (((ts.filter p).map f).map W.cl)]) := by
  unfold mLc
  rw [hi]
  show (lcGo mg mt me (wipeL ρ vs) ts [] cs1).bind _ = _
  rw [lc_go f p ts [] h (by simpa using hl)]
  show newL true ([] ++ _) cs1 = _
  rw [List.nil_append]
  rfl
/-- .. by encodings -/
theorem lc_enc {α β : Type} {mg : MG} {mt : MB} {me : ME} {ρ : Loc} {cs : Cs} (enc : α → T) (enc' : β → T) (F : α → β) (p : α → Bool) : ∀ (xs : List α) (acc : List W),
    (∀ x ∈ xs, ∃ ρ', mg (.cl (enc x)) ρ cs = .ok ρ' cs ∧ mt ρ' cs = .ok (p x) cs ∧ (p x = true → me ρ' cs = .ok (.cl (enc' (F x))) cs)) → acc.length + xs.length ≤ LIM →
    lcGo mg mt me ρ (xs.map enc) acc cs = .ok (acc ++ (((xs.filter p).map F).map enc').map W.cl) cs
  | [], acc, _, _ => by simp [lcGo]
  | x :: xs, acc, h, hl => by
    obtain ⟨ρ', h1, h2, h3⟩ := h x (List.mem_cons_self)
    simp only [List.length_cons] at hl
    have ih := fun acc' h' => lc_enc enc enc' F p xs acc' (fun t ht => h t (List.mem_cons_of_mem _ ht)) h'
    rw [List.map_cons]
    unfold lcGo
    rw [h1]
    show (mt ρ' cs).noEx.bind _ = _
    rw [h2]
    show (if p x = true then _ else _) = _
    cases hp : p x with
    | false =>
      rw [if_neg Bool.false_ne_true, List.filter_cons_of_neg (by simp [hp])]
      exact ih acc (by omega)
    | true =>
      rw [if_pos rfl, h3 hp]
      show (if acc.length < LIM then _ else _) = _
      rw [if_pos (by omega), List.filter_cons_of_pos hp, ih _ (by simp only [List.length_append, List.length_cons, List.length_nil]; omega)]
      simp
theorem mlc_enc {α β : Type} {vs : List Nat} {mi : MI} {mg : MG} {mt : MB} {me : ME} {ρ : Loc} {cs cs1 : Cs} (enc : α → T) (enc' : β → T) (F : α → β) (p : α → Bool) (xs : List α) (hi : mi ρ cs = .ok (xs.map enc) cs1) (hl : xs.length ≤ LIM)
    (h : ∀ x ∈ xs, ∃ ρ', mg (.cl (enc x)) (wipeL ρ vs) cs1 = .ok ρ' cs1 ∧ mt ρ' cs1 = .ok (p x) cs1 ∧ (p x = true → me ρ' cs1 = .ok (.cl (enc' (F x))) cs1)) :
    mLc false vs mi mg mt me ρ cs = .ok (.cl (.lst (((xs.filter p).map F).map enc'))) cs1 := by
  unfold mLc
  rw [hi]
  show (lcGo mg mt me (wipeL ρ vs) (xs.map enc) [] cs1).bind _ = _
  rw [lc_enc enc enc' F p xs [] h (by simpa using hl)]
  show newL false ([] ++ _) cs1 = _
  rw [List.nil_append]
  simp only [newL, frzs_cls, Bool.false_eq_true, if_false]
/-- .. of all items -/
theorem mlc_all {α β : Type} {vs : List Nat} {mi : MI} {mg : MG} {me : ME} {ρ : Loc} {cs cs1 : Cs} (enc : α → T) (enc' : β → T) (F : α → β) (xs : List α) (hi : mi ρ cs = .ok (xs.map enc) cs1) (hl : xs.length ≤ LIM)
    (h : ∀ x ∈ xs, ∃ ρ', mg (.cl (enc x)) (wipeL ρ vs) cs1 = .ok ρ' cs1 ∧ me ρ' cs1 = .ok (.cl (enc' (F x))) cs1) :
    mLc false vs mi mg mYes me ρ cs = .ok (.cl (.lst ((xs.map F).map enc'))) cs1 := by
  have := mlc_enc (mt := mYes) enc enc' F (fun _ => true) xs hi hl (fun x hx => by
    obtain ⟨ρ', h1, h2⟩ := h x hx
    exact ⟨ρ', h1, rfl, fun _ => h2⟩)
  rwa [show xs.filter (fun _ => true) = xs by induction xs <;> simp_all] at this
theorem mlc_allO {α β : Type} {vs : List Nat} {mi : MI} {mg : MG} {me : ME} {ρ : Loc} {cs cs1 : Cs} (enc : α → T) (enc' : β → T) (F : α → β) (xs : List α) (hi : mi ρ cs = .ok (xs.map enc) cs1) (hl : xs.length ≤ LIM)
    (h : ∀ x ∈ xs, ∃ ρ', mg (.cl (enc x)) (wipeL ρ vs) cs1 = .ok ρ' cs1 ∧ me ρ' cs1 = .ok (.cl (enc' (F x))) cs1) :
    mLc true vs mi mg mYes me ρ cs = .ok (.pt cs1.length) (cs1 ++ [.lst (((xs.map F).map enc').map W.cl)]) := by
  unfold mLc
  rw [hi]
  show (lcGo mg mYes me (wipeL ρ vs) (xs.map enc) [] cs1).bind _ = _
  rw [lc_enc enc enc' F (fun _ => true) xs [] (fun x hx => by
    obtain ⟨ρ', h1, h2⟩ := h x hx
    exact ⟨ρ', h1, rfl, fun _ => h2⟩) (by simpa using hl)]
  show newL true ([] ++ _) cs1 = _
  rw [List.nil_append, show xs.filter (fun _ => true) = xs by induction xs <;> simp_all]
  rfl
/-- .. that builds cells: one new cell for each item -/
theorem lc_cells {mg : MG} {me : ME} {ρ : Loc} {c : Cell} : ∀ (ts : List T) (acc : List W) (cs : Cs),
    (∀ t ∈ ts, ∀ cs, ∃ ρ', mg (.cl t) ρ cs = .ok ρ' cs ∧ me ρ' cs = .ok (.pt cs.length) (cs ++ [c])) → acc.length + ts.length ≤ LIM →
    lcGo mg mYes me ρ ts acc cs = .ok (acc ++ (List.range' cs.length ts.length).map W.pt) (cs ++ List.replicate ts.length c)
  | [], acc, cs, _, _ => by simp [lcGo]
  | t :: ts, acc, cs, h, hl => by
    obtain ⟨ρ', h1, h3⟩ := h t (List.mem_cons_self) cs
    simp only [List.length_cons] at hl
    have ih := fun acc' cs' h' => lc_cells (c := c) ts acc' cs' (fun t ht => h t (List.mem_cons_of_mem _ ht)) h'
    unfold lcGo
    rw [h1]
    show (me ρ' cs).noEx.bind _ = _
    rw [h3]
    show (if acc.length < LIM then _ else _) = _
    rw [if_pos (by omega), ih _ _ (by simp only [List.length_append, List.length_cons, List.length_nil]; omega)]
    simp only [List.length_append, List.length_cons, List.length_nil, List.append_assoc, List.range'_succ, List.map_cons, List.replicate_succ]
    rfl
theorem filter_yes {α : Type} (xs : List α) : xs.filter (fun _ => true) = xs := by induction xs <;> simp_all
theorem callT_sc {g : List T → Option T} {ws : List W} {cs cs' : Cs} {ts : List T} {t : T} (hf : frzs (frz 8) ws cs = some (ts, cs')) (hg : g ts = some t) (hs : isSc t = true) : callT g ws cs = .ok (.cl t) cs := by
  simp only [callT, hf, hg, hs, if_true]
theorem callT_cl {g : List T → Option T} {ts : List T} {cs : Cs} {t : T} (hg : g ts = some t) : callT g (ts.map W.cl) cs = .ok (.cl t) cs := by
  simp only [callT, frzs_cls, hg, ite_self]

/-! owned lists -/
def frzK (f : List W → Cs → Option (List T × Cs)) (i : Nat) (cs : Cs) : Option Cell → Option (T × Cs)
  | some (.fz t) => some (t, cs)
  | some (.lst ws) => match f ws cs with
    | none => none
    | some (ts, cs1) => match cs1[i]? with
      | some (.lst _) => some (.lst ts, cs1.set i (.fz (.lst ts)))
      | _ => none
  | c => match c with
    | none => none
    | some _ => frzC f i cs
def lstOf : Option Cell → Option (List W)
  | some (.lst ws) => some ws
  | some (.fz (.lst ts)) => some (ts.map .cl)
  | _ => none
def ownOf : Option Cell → Option (List W)
  | some (.lst ws) => some ws
  | _ => none
theorem ep :
    (∀ (f : List W → Cs → Option (List T × Cs)) i cs t, frzK f i cs (some (Cell.fz t)) = some (t, cs)) ∧
    (∀ (f : List W → Cs → Option (List T × Cs)) i cs ws, frzK f i cs (some (Cell.lst ws)) = match f ws cs with | none => none | some (ts, cs1) => (match cs1[i]? with | some (Cell.lst _) => some (T.lst ts, cs1.set i (Cell.fz (T.lst ts))) | _ => none)) ∧
    (∀ n i cs, frz (n + 1) (W.pt i) cs = frzK (frzs (frz n)) i cs cs[i]?) ∧
    (∀ i cs, itemsT (W.pt i) cs = match frz 8 (W.pt i) cs with | some (T.lst ts, cs1) => R.ok ts cs1 | some (T.tup ts, cs1) => R.ok ts cs1 | some (T.scr ts, cs1) => R.ok ts cs1 | _ => R.no) ∧
    (∀ ws, lstOf (some (Cell.lst ws)) = some ws) ∧ (∀ ts, lstOf (some (Cell.fz (T.lst ts))) = some (ts.map W.cl)) ∧ (∀ ws, ownOf (some (Cell.lst ws)) = some ws) ∧
    (∀ cs i, isTy "list" cs (W.pt i) = (lstOf cs[i]?).isSome) ∧
    (∀ i y cs, fAppend (W.pt i) [y] cs = match ownOf cs[i]? with | some ws => (if ws.length < LIM then R.ok (W.cl T.non) (cs.set i (Cell.lst (ws ++ [y]))) else R.no) | none => R.no) ∧
    (∀ j i cs, fIx (W.pt j) (W.cl (T.int i)) cs = match lstOf cs[j]? with | some ws => (match atI ws i with | some w => R.ok w cs | none => R.no) | none => R.no) ∧
    (∀ j cs, fLen [W.pt j] cs = match lstOf cs[j]? with | some ws => R.ok (W.cl (T.int ws.length)) cs | none => R.no) ∧
    (∀ j k cs, fPop (W.pt j) [W.cl (T.int k)] cs = match ownOf cs[j]? with | some ws => (if inB 1000000 k = true then (match ixN ws.length k with | some q => (match ws[q]? with | some y => R.ok y (cs.set j (Cell.lst (ws.eraseIdx q))) | none => R.no) | none => R.no) else R.no) | none => R.no) ∧
    (∀ j n v cs ρ c, fSet (W.pt j) (W.cl (T.int n)) v cs (R.ok ρ c) = match ownOf cs[j]? with | some ws => (match ixN ws.length n with | some q => R.ok ρ (cs.set j (Cell.lst (ws.set q v))) | none => R.no) | none => R.no) ∧
    (∀ cs j, tru cs (W.pt j) = (lstOf cs[j]?).map fun ws => !ws.isEmpty) ∧
    (∀ (α : Type) (a : α), (some a).isSome = true) ∧ (∀ (α β : Type) (f : α → β) (a : α), (some a).map f = some (f a)) ∧
    (∀ j cs, fTuple [W.pt j] cs = match lstOf cs[j]? with | some ws => newT ws cs | none => R.no) ∧
    (∀ b j cs, fList b [W.pt j] cs = match lstOf cs[j]? with | some ws => newL b ws cs | none => R.no) := by
  have hs : ∀ cs j, seqS cs (W.pt j) = lstOf cs[j]? := fun cs j => by
    simp only [seqS, seqL]
    cases cs[j]? with
    | none => rfl
    | some c => cases c with
      | fz t => cases t <;> rfl
      | _ => rfl
  have ho : ∀ cs j, ownL cs (W.pt j) = (ownOf cs[j]?).map fun ws => (j, ws) := fun cs j => by
    simp only [ownL]
    cases cs[j]? with
    | none => rfl
    | some c => cases c <;> rfl
  refine ⟨?_, ?_, ?_, ?_, ?_, ?_, ?_, ?_, ?_, ?_, ?_, ?_, ?_, ?_, ?_, ?_, ?_, ?_⟩ <;> intros
  case refine_3 n i cs =>
    simp only [frz]
    generalize hc : cs[i]? = c
    cases c with
    | none => simp only [frzC, hc, frzK]
    | some c => cases c <;> simp only [frzC, hc, frzK] <;> rfl
  case refine_8 => simp only [isTy, if_true, hs]
  case refine_9 i y cs => simp only [fAppend, ho]; cases ownOf cs[i]? <;> rfl
  case refine_10 j i cs => simp only [fIx, hs]; try rfl
  case refine_11 => simp only [fLen, hs]; try rfl
  case refine_12 j k cs => simp only [fPop, ho]; cases ownOf cs[j]? <;> rfl
  case refine_13 j n v cs ρ c =>
    simp only [fSet]
    cases cs[j]? with
    | none => rfl
    | some c => cases c <;> rfl
  case refine_14 => simp only [tru, hs]
  case refine_17 => simp only [fTuple, hs]; try rfl
  case refine_18 => simp only [fList, hs]; try rfl
  all_goals rfl
end G

/-! The tree layer, 15: data, reckoned with. -/
namespace G
open PySem L2 RZ PyProof.Rows

/-- ints, texts, None, tuples and lists of such, of depth at most n -/
def T.gd : Nat → T → Bool
  | _, .non => true
  | _, .int _ => true
  | _, .str x => PySem.PyData.strOk x
  | n + 1, .tup ts => ts.all (T.gd n)
  | n + 1, .lst ts => ts.all (T.gd n)
  | _, _ => false
theorem gds_pd {n : Nat} (ih : ∀ t, T.gd n t = true → ∃ d, t.pd = some d ∧ d.depth ≤ n) : ∀ ts : List T, ts.all (T.gd n) = true → ∃ ds, T.pds ts = some ds ∧ PyData.depthAll ds ≤ n
  | [], _ => ⟨[], rfl, Nat.zero_le _⟩
  | t :: ts, h => by
    rw [List.all_cons, Bool.and_eq_true] at h
    obtain ⟨d, h1, h2⟩ := ih t h.1
    obtain ⟨ds, h3, h4⟩ := gds_pd ih ts h.2
    refine ⟨d :: ds, by rw [T.pds, h1, h3], ?_⟩
    rw [PyData.depthAll]; omega
theorem gd_pd : ∀ (n : Nat) (t : T), T.gd n t = true → ∃ d, t.pd = some d ∧ d.depth ≤ n
  | n, .bl _, h | n, .ty _, h | n, .rf _, h | n, .scr _, h | n, .wtp _, h | n, .ins _ _ _, h | n, .dK _ _, h | n, .dT _ _, h | n, .dN _ _, h => by cases n <;> cases h
  | 0, .tup _, h | 0, .lst _, h => by cases h
  | n, .non, _ => ⟨_, by rw [T.pd], by rw [PyData.depth]; omega⟩
  | n, .int i, _ => ⟨_, by rw [T.pd], by rw [PyData.depth]; omega⟩
  | n, .str x, h => by
    have h : PySem.PyData.strOk x = true := by cases n <;> exact h
    exact ⟨.str x, by rw [T.pd, if_pos h], by rw [PyData.depth]; omega⟩
  | n + 1, .tup ts, h => by
    obtain ⟨ds, h1, h2⟩ := gds_pd (gd_pd n) ts h
    exact ⟨.tuple ds, by rw [T.pd, h1]; rfl, by rw [PyData.depth]; omega⟩
  | n + 1, .lst ts, h => by
    obtain ⟨ds, h1, h2⟩ := gds_pd (gd_pd n) ts h
    exact ⟨.list ds, by rw [T.pd, h1]; rfl, by rw [PyData.depth]; omega⟩
theorem gds_eqv {n : Nat} (ih : ∀ m t u d e, T.gd n t = true → T.gd m u = true → t.pd = some d → u.pd = some e → (PyData.eqv d e = true ↔ t = u)) {m : Nat} : ∀ (ts us : List T) ds es, ts.all (T.gd n) = true → us.all (T.gd m) = true → T.pds ts = some ds → T.pds us = some es →
    (PyData.eqvAll ds es = true ↔ ts = us)
  | [], [], ds, es, _, _, h1, h2 => by cases h1; cases h2; simp [PyData.eqvAll]
  | [], u :: us, ds, es, _, g2, h1, h2 => by
    cases h1
    rw [List.all_cons, Bool.and_eq_true] at g2
    rw [T.pds] at h2
    split at h2
    · cases h2; simp [PyData.eqvAll]
    · cases h2
  | t :: ts, [], ds, es, _, _, h1, h2 => by
    cases h2
    rw [T.pds] at h1
    split at h1
    · cases h1; simp [PyData.eqvAll]
    · cases h1
  | t :: ts, u :: us, ds, es, g1, g2, h1, h2 => by
    rw [List.all_cons, Bool.and_eq_true] at g1 g2
    rw [T.pds] at h1 h2
    split at h1
    · rename_i d1 ds1 a1 a2
      cases h1
      split at h2
      · rename_i d2 ds2 b1 b2
        cases h2
        rw [PyData.eqvAll, Bool.and_eq_true, ih m t u _ _ g1.1 g2.1 a1 b1, gds_eqv ih ts us _ _ g1.2 g2.2 a2 b2]
        simp
      · cases h2
    · cases h1
inductive Gv : Nat → T → PyData → Prop
  | non (n : Nat) : Gv n .non .none
  | int (n : Nat) (i : Int) : Gv n (.int i) (.int i)
  | str (n : Nat) (x : Str) : Gv n (.str x) (.str x)
  | tup {n : Nat} {ts : List T} {ds : List PyData} : ts.all (T.gd n) = true → T.pds ts = some ds → Gv (n + 1) (.tup ts) (.tuple ds)
  | lst {n : Nat} {ts : List T} {ds : List PyData} : ts.all (T.gd n) = true → T.pds ts = some ds → Gv (n + 1) (.lst ts) (.list ds)
theorem gv {n : Nat} {t : T} {d : PyData} (g : T.gd n t = true) (h : t.pd = some d) : Gv n t d := by
  cases t with
  | non => rw [T.pd] at h; cases h; exact .non _
  | int i => rw [T.pd] at h; cases h; exact .int _ _
  | str x =>
    rw [T.pd] at h
    split at h
    · cases h; exact .str _ _
    · cases h
  | tup ts =>
    cases n with
    | zero => cases g
    | succ n =>
      rw [T.pd] at h
      obtain ⟨ds, e, rfl⟩ := Option.map_eq_some_iff.mp h
      exact .tup g e
  | lst ts =>
    cases n with
    | zero => cases g
    | succ n =>
      rw [T.pd] at h
      obtain ⟨ds, e, rfl⟩ := Option.map_eq_some_iff.mp h
      exact .lst g e
  | _ => cases n <;> cases g
theorem gd_eqv : ∀ (n m : Nat) (t u : T) (d e : PyData), T.gd n t = true → T.gd m u = true → t.pd = some d → u.pd = some e → (PyData.eqv d e = true ↔ t = u) := by
  intro n
  induction n with
  | zero =>
    intro m t u d e g1 g2 h1 h2
    have v1 := gv g1 h1
    have v2 := gv g2 h2
    cases v1 <;> cases v2 <;> simp [PyData.eqv]
  | succ n ih =>
    intro m t u d e g1 g2 h1 h2
    have v1 := gv g1 h1
    have v2 := gv g2 h2
    cases v1 with
    | tup a1 e1 => cases v2 with
      | tup a2 e2 => rw [PyData.eqv, gds_eqv ih _ _ _ _ a1 a2 e1 e2]; simp
      | _ => simp [PyData.eqv]
    | lst a1 e1 => cases v2 with
      | lst a2 e2 => rw [PyData.eqv, gds_eqv ih _ _ _ _ a1 a2 e1 e2]; simp
      | _ => simp [PyData.eqv]
    | _ => cases v2 <;> simp [PyData.eqv]
theorem peek_cl (cs : Cs) (t : T) : peek cs (.cl t) = some t := by rw [peek, frz_cl]; rfl
theorem peek_lst {cs : Cs} {i : Nat} {ts : List T} (h : cs[i]? = some (.lst (ts.map .cl))) : peek cs (.pt i) = some (.lst ts) := by rw [peek, frz_lst h]; rfl
theorem peek_fz {cs : Cs} {i : Nat} {t : T} (h : cs[i]? = some (.fz t)) : peek cs (.pt i) = some t := by rw [peek, frz_fz h]; rfl
theorem dat_gd {cs : Cs} {x : W} {t : T} (h : peek cs x = some t) (g : T.gd 60 t = true) : ∃ d, dat cs x = some d ∧ t.pd = some d := by
  obtain ⟨d, h1, h2⟩ := gd_pd 60 t g
  refine ⟨d, ?_, h1⟩
  simp only [dat, h, h1]
  rw [if_pos h2]
theorem gd_mono : ∀ {n m : Nat} {t : T}, n ≤ m → T.gd n t = true → T.gd m t = true
  | n, _, .bl _, _, h | n, _, .ty _, _, h | n, _, .rf _, _, h | n, _, .scr _, _, h | n, _, .wtp _, _, h | n, _, .ins _ _ _, _, h | n, _, .dK _ _, _, h | n, _, .dT _ _, _, h | n, _, .dN _ _, _, h => by cases n <;> cases h
  | 0, _, .tup _, _, h | 0, _, .lst _, _, h => by cases h
  | _, m, .non, _, h => by cases m <;> rfl
  | _, m, .int _, _, h => by cases m <;> rfl
  | n, m, .str x, _, h => by cases n <;> cases m <;> exact h
  | n + 1, m, .tup ts, hm, h => by
    cases m with
    | zero => omega
    | succ m =>
      simp only [T.gd, List.all_eq_true] at h ⊢
      exact fun x hx => gd_mono (by omega) (h x hx)
  | n + 1, m, .lst ts, hm, h => by
    cases m with
    | zero => omega
    | succ m =>
      simp only [T.gd, List.all_eq_true] at h ⊢
      exact fun x hx => gd_mono (by omega) (h x hx)
theorem f_eq {cs : Cs} {x y : W} {t u : T} (hx : peek cs x = some t) (hy : peek cs y = some u) (g1 : T.gd 60 t = true) (g2 : T.gd 60 u = true) : ∃ b, fEq x y cs = .ok (.cl (.bl b)) cs ∧ (b = true ↔ t = u) := by
  obtain ⟨d, a1, a2⟩ := dat_gd hx g1
  obtain ⟨e, b1, b2⟩ := dat_gd hy g2
  exact ⟨_, by simp only [fEq, a1, b1], gd_eqv 60 60 t u d e g1 g2 a2 b2⟩
theorem f_ne {cs : Cs} {x y : W} {t u : T} (hx : peek cs x = some t) (hy : peek cs y = some u) (g1 : T.gd 60 t = true) (g2 : T.gd 60 u = true) : ∃ b, fNe x y cs = .ok (.cl (.bl b)) cs ∧ (b = true ↔ t ≠ u) := by
  obtain ⟨d, a1, a2⟩ := dat_gd hx g1
  obtain ⟨e, b1, b2⟩ := dat_gd hy g2
  refine ⟨!PyData.eqv d e, by simp only [fNe, a1, b1], ?_⟩
  have := gd_eqv 60 60 t u d e g1 g2 a2 b2
  rw [Bool.not_eq_true', ← Bool.not_eq_true, this]
section
variable {α : Type} [DecidableEq α] {enc : α → T}
theorem enc_pds (gd : ∀ a, T.gd 8 (enc a) = true) (as : List α) : ∃ ds, T.pds (as.map enc) = some ds ∧ PyData.depthAll ds ≤ 8 :=
  gds_pd (gd_pd 8) _ (by rw [List.all_eq_true]; intro t ht; obtain ⟨a, _, rfl⟩ := List.mem_map.mp ht; exact gd a)
theorem enc_any (inj : ∀ a b, enc a = enc b → a = b) (gd : ∀ a, T.gd 8 (enc a) = true) {a : α} {d : PyData} (hd : (enc a).pd = some d) : ∀ (as : List α) (ds : List PyData), T.pds (as.map enc) = some ds → (ds.any fun z => PyData.eqv z d) = decide (a ∈ as) ∧ (ds.countP fun z => PyData.eqv z d) = as.count a
  | [], ds, h => by cases h; simp
  | b :: as, ds, h => by
    rw [List.map_cons, T.pds] at h
    split at h
    · rename_i e es h1 h2
      cases h
      have q := gd_eqv 8 8 _ _ _ _ (gd b) (gd a) h1 hd
      have q2 : PyData.eqv e d = decide (b = a) := by
        rw [Bool.eq_iff_iff, q, decide_eq_true_eq]
        exact ⟨inj b a, fun e => by rw [e]⟩
      obtain ⟨i1, i2⟩ := enc_any inj gd hd as es h2
      constructor
      · rw [List.any_cons, i1, q2]
        by_cases hb : b = a
        · simp [hb]
        · have : ¬ a = b := fun e => hb e.symm
          simp [hb, this]
      · rw [List.countP_cons, List.count_cons, i2, q2]
        by_cases hb : b = a <;> simp [hb]
    · cases h
/-- what holds the list or the tuple of these -/
def holds (cs : Cs) (y : W) (ts : List T) : Prop := peek cs y = some (.lst ts) ∨ peek cs y = some (.tup ts)
theorem f_in (inj : ∀ a b, enc a = enc b → a = b) (gd : ∀ a, T.gd 8 (enc a) = true) {neg : Bool} {cs : Cs} {x y : W} {a : α} {as : List α} (hx : peek cs x = some (enc a)) (hy : holds cs y (as.map enc)) : fIn neg x y cs = .ok (.cl (.bl (if neg then !decide (a ∈ as) else decide (a ∈ as)))) cs := by
  obtain ⟨d, a1, a2⟩ := dat_gd hx (gd_mono (by omega) (gd a))
  obtain ⟨ds, b1, b2⟩ := enc_pds gd as
  obtain ⟨c1, _⟩ := enc_any inj gd a2 as ds b1
  rcases hy with hy | hy
  · have : dat cs y = some (.list ds) := by
      have hd : (PyData.list ds).depth ≤ 60 := by rw [PyData.depth]; omega
      simp only [dat, hy, T.pd, b1, Option.map_some, hd, if_true]
    simp only [fIn, a1, this, c1]
  · have : dat cs y = some (.tuple ds) := by
      have hd : (PyData.tuple ds).depth ≤ 60 := by rw [PyData.depth]; omega
      simp only [dat, hy, T.pd, b1, Option.map_some, hd, if_true]
    simp only [fIn, a1, this, c1]
theorem f_inD (inj : ∀ a b, enc a = enc b → a = b) (gd : ∀ a, T.gd 8 (enc a) = true) {cs : Cs} {x y : W} {a : α} {as : List α} [Decidable (a ∈ as)] (hx : peek cs x = some (enc a)) (hy : holds cs y (as.map enc)) : fIn false x y cs = .ok (.cl (.bl (decide (a ∈ as)))) cs := by
  rw [f_in inj gd hx hy, if_neg Bool.false_ne_true]
  congr
theorem f_ninD (inj : ∀ a b, enc a = enc b → a = b) (gd : ∀ a, T.gd 8 (enc a) = true) {cs : Cs} {x y : W} {a : α} {as : List α} [Decidable (a ∈ as)] (hx : peek cs x = some (enc a)) (hy : holds cs y (as.map enc)) : fIn true x y cs = .ok (.cl (.bl (!decide (a ∈ as)))) cs := by
  rw [f_in inj gd hx hy, if_pos rfl]
  congr
theorem f_count (inj : ∀ a b, enc a = enc b → a = b) (gd : ∀ a, T.gd 8 (enc a) = true) {cs : Cs} {x y : W} {a : α} {as : List α} (hx : peek cs x = some (enc a)) (hy : peek cs y = some (.lst (as.map enc))) : fCount y [x] cs = .ok (.cl (.int (as.countP (fun b => decide (b = a)) : Nat))) cs := by
  have ec : as.countP (fun b => decide (b = a)) = as.count a := by
    unfold List.count
    congr
  rw [ec]
  obtain ⟨d, a1, a2⟩ := dat_gd hx (gd_mono (by omega) (gd a))
  obtain ⟨ds, b1, b2⟩ := enc_pds gd as
  obtain ⟨_, c1⟩ := enc_any inj gd a2 as ds b1
  have : dat cs y = some (.list ds) := by
    have hd : (PyData.list ds).depth ≤ 60 := by rw [PyData.depth]; omega
    simp only [dat, hy, T.pd, b1, Option.map_some, hd, if_true]
  simp only [fCount, a1, this, c1]
def srtE (enc : α → T) (as : List α) : List α := as.mergeSort fun a b => leT (enc a) (enc b)
theorem srtE_perm (enc : α → T) (as : List α) : (srtE enc as).Perm as := List.mergeSort_perm _ _
theorem sortT_enc (enc : α → T) (as : List α) : sortT (as.map enc) = (srtE enc as).map enc := (List.map_mergeSort (f := enc) (r := fun a b => leT (enc a) (enc b)) (s := leT) (l := as) (fun a _ b _ => rfl)).symm
/-- sorted: in some order -/
theorem f_sorted {cs cs1 : Cs} {x : W} {as : List α} (gd : ∀ a, T.gd 8 (enc a) = true) (hal : ∀ a b d e, (enc a).pd = some d → (enc b).pd = some e → PySem.W.alike d e = true) (htc : (∀ a d, (enc a).pd = some d → tupCons d = true) ∨ (∀ a d, (enc a).pd = some d → tupNone d = false)) (hl : as.length ≤ LIM)
    (hx : frz 8 x cs = some (.lst (as.map enc), cs1)) : fSorted false [x] cs = .ok (.cl (.lst ((srtE enc as).map enc))) cs1 := by
  obtain ⟨ds, b1, b2⟩ := enc_pds gd as
  have each : ∀ (as : List α) (ds : List PyData), T.pds (as.map enc) = some ds → ds.length = as.length ∧ ∀ d ∈ ds, ∃ a, (enc a).pd = some d := by
    intro as
    induction as with
    | nil => intro ds h; cases h; simp
    | cons a as ih =>
      intro ds h
      rw [List.map_cons, T.pds] at h
      split at h
      · rename_i e es h1 h2
        cases h
        obtain ⟨i1, i2⟩ := ih es h2
        refine ⟨by simp [i1], fun d hd => ?_⟩
        rcases List.mem_cons.mp hd with rfl | hd
        · exact ⟨a, h1⟩
        · exact i2 d hd
      · cases h
  obtain ⟨e1, e2⟩ := each as ds b1
  have ok : sortOk ds = true := by
    unfold sortOk
    simp only [Bool.and_eq_true, Bool.or_eq_true, List.all_eq_true, decide_eq_true_eq, Bool.not_eq_true']
    refine ⟨⟨⟨fun d hd e he => ?_, ?_⟩, fun d hd => ?_⟩, by omega⟩
    · obtain ⟨a, ha⟩ := e2 d hd
      obtain ⟨b, hb⟩ := e2 e he
      exact hal a b d e ha hb
    · rcases htc with h | h
      · exact .inl fun d hd => by obtain ⟨a, ha⟩ := e2 d hd; exact h a d ha
      · exact .inr fun d hd => by obtain ⟨a, ha⟩ := e2 d hd; exact h a d ha
    · obtain ⟨a, ha⟩ := e2 d hd
      obtain ⟨d', h1, h2⟩ := gd_pd 8 _ (gd a)
      rw [ha] at h1; cases h1; omega
  simp only [fSorted, hx, b1, ok, if_true, sortT_enc, newL, frzs_cls, Bool.false_eq_true, if_false]
end
/-- a pair of ints -/
def pT (p : Int × Int) : T := .tup [.int p.1, .int p.2]
theorem pT_inj : ∀ a b, pT a = pT b → a = b := fun ⟨a, b⟩ ⟨c, d⟩ h => by simp [pT] at h; simp [h]
theorem pT_gd : ∀ a, T.gd 8 (pT a) = true := fun a => rfl
theorem int_inj : ∀ a b, T.int a = T.int b → a = b := fun a b h => by cases h; rfl
theorem int_gd : ∀ a, T.gd 8 (T.int a) = true := fun a => rfl
theorem f_sortedP {cs cs1 : Cs} {x : W} {as : List (Int × Int)} (hl : as.length ≤ LIM) (hx : frz 8 x cs = some (.lst (as.map pT), cs1)) : fSorted false [x] cs = .ok (.cl (.lst ((srtE pT as).map pT))) cs1 :=
  f_sorted pT_gd (fun a b d e h1 h2 => by
    rw [pT] at h1 h2; simp [T.pd, T.pds] at h1 h2; subst h1; subst h2; simp [PySem.W.alike, PySem.W.alikeAll]) (.inl fun a d h => by rw [pT] at h; simp [T.pd, T.pds] at h; subst h; rfl) hl hx
theorem f_sortedI {cs cs1 : Cs} {x : W} {as : List Int} (hl : as.length ≤ LIM) (hx : frz 8 x cs = some (.lst (as.map T.int), cs1)) : fSorted false [x] cs = .ok (.cl (.lst ((srtE T.int as).map T.int))) cs1 :=
  f_sorted int_gd (fun a b d e h1 h2 => by
    simp [T.pd] at h1 h2; subst h1; subst h2; simp [PySem.W.alike]) (.inr fun a d h => by simp [T.pd] at h; subst h; rfl) hl hx
/-- a comprehension whose items change cells -/
theorem lc_ix {mg : MG} {me : ME} {ρ : Loc} {ts : List T} (I : Nat → List W → Cs → Prop)
    (hs : ∀ i t acc cs, ts[i]? = some t → I i acc cs → ∃ ρ' cs1 w cs', mg (.cl t) ρ cs = .ok ρ' cs1 ∧ me ρ' cs1 = .ok w cs' ∧ I (i + 1) (acc ++ [w]) cs') {acc : List W} {cs : Cs} (hl : acc.length + ts.length ≤ LIM) (h0 : I 0 acc cs) :
    ∃ ws cs', lcGo mg mYes me ρ ts acc cs = .ok ws cs' ∧ I ts.length ws cs' := by
  induction ts generalizing I acc cs with
  | nil => exact ⟨acc, cs, rfl, h0⟩
  | cons t ts ih =>
    obtain ⟨ρ', cs1, w, cs', e1, e2, h1⟩ := hs 0 t acc cs rfl h0
    simp only [List.length_cons] at hl
    obtain ⟨ws, cs2, e3, h2⟩ := ih (fun i => I (i + 1)) (fun i t acc cs hi => hs (i + 1) t acc cs hi) (acc := acc ++ [w]) (by simp only [List.length_append, List.length_cons, List.length_nil]; omega) h1
    refine ⟨ws, cs2, ?_, h2⟩
    unfold lcGo
    rw [e1]
    show (me ρ' cs1).noEx.bind _ = _
    rw [e2]
    show (if acc.length < LIM then _ else _) = _
    rw [if_pos (by omega)]
    exact e3
end G

/-! The tree layer, 16: dicts whose keys are nested tuples; ints of the module. -/
namespace G
open PySem L2 RZ PyProof.Rows

/-! ### keys -/
theorem nestedAll_of {h : Heap} : ∀ {ks : List NestedKey} {its : List Value}, its.length = ks.length → (∀ (i : Nat) (u : Value) (k : NestedKey), its[i]? = some u → ks[i]? = some k → NestedIs h k u) → NestedAll h ks its
  | [], [], _, _ => .nil
  | k :: ks, u :: us, hl, hp => .cons (hp 0 u k rfl rfl) (nestedAll_of (by simpa using hl) fun i u k h1 h2 => hp (i + 1) u k h1 h2)
theorem nested_of {P : Program} {w : World} {H : Hp} {h : Heap} (ok : HOk P w H h) {v : V} {k : NestedKey} (r : KRep H v k) : ∀ {u : Value}, RelV v u → NestedIs h k u := by
  induction r with
  | non => intro u ru; cases ru; exact .none
  | num i => intro u ru; obtain ⟨t, rfl⟩ := ru; exact .int i t
  | text x => intro u ru; obtain ⟨t, rfl⟩ := ru; exact .text x t
  | @tup a vs ks e hl _ ih =>
    intro u ru
    cases ru
    obtain ⟨_, its, r, o, h1, h2, n, h3⟩ := (show ObjOk P w H h a (.tup vs) from ok a _ e)
    refine .tup h1 h2 h3 (nestedAll_of (by simpa using r.length.symm.trans hl) fun i u k hu hk => ?_)
    have hi : i < vs.length := by rw [hl]; exact (List.getElem?_eq_some_iff.mp hk).1
    obtain ⟨u', h4, h5⟩ := r.get (List.getElem?_eq_getElem hi)
    have : u' = u := by
      have q : its[i]? = some u := by simpa using hu
      rw [h4] at q; exact Option.some.inj q
    subst this
    exact ih i _ k (List.getElem?_eq_getElem hi) hk h5
/-- what stands at the key -/
theorem look_cons {κ α : Type} [DecidableEq κ] (k0 : κ) (a0 : α) (ks : List κ) (as : List α) (k : κ) : look (k0 :: ks) (a0 :: as) k = if k0 = k then some a0 else look ks as k := by
  unfold look
  rw [List.zip_cons_cons, List.find?_cons]
  by_cases h : k0 = k <;> simp [h]
theorem atKey_look {k : NestedKey} : ∀ {ks : List NestedKey} {bs : List Addr} {vs : List V} {us : List Value}, Vals vs us → ks.length = vs.length → bs.length = ks.length →
    (∀ v, look ks vs k = some v → ∃ p, atKey (ks.zip (bs.zip us)) k = some p ∧ RelV v p.2) ∧ (look ks vs k = none → atKey (ks.zip (bs.zip us)) k = none)
  | [], _, [], [], .nil, _, _ => ⟨fun _ h => by simp [look] at h, fun _ => rfl⟩
  | k0 :: ks, b0 :: bs, v0 :: vs, u0 :: us, .cons r0 r, h1, h2 => by
    obtain ⟨i1, i2⟩ := atKey_look (k := k) r (by simpa using h1) (by simpa using h2)
    rw [look_cons]
    by_cases h : k0 = k
    · refine ⟨fun v hv => ⟨(b0, u0), by simp [atKey, h], by rw [if_pos h] at hv; cases hv; exact r0⟩, fun hv => by rw [if_pos h] at hv; cases hv⟩
    · rw [if_neg h]
      refine ⟨fun v hv => ?_, fun hv => ?_⟩
      · obtain ⟨p, q1, q2⟩ := i1 v hv
        exact ⟨p, by simpa [atKey, h] using q1, q2⟩
      · simpa [atKey, h] using i2 hv
theorem Vals.lens {vs : List V} {us : List Value} (r : Vals vs us) : vs.length = us.length := r.length
section
variable {P : Program} {w : World} {H : Hp} {h : Heap} {d : Addr} {ep : Nat} {ks : List NestedKey} {bs : List Addr} {vs : List V}
theorem nd_rd (ok : HOk P w H h) (e : H d = some (NdO w d ep ks bs vs)) (hk : KAts H bs ks) (hl : ks.length = vs.length) : vs.length ≤ sizeLine ∧ (d == sysModules) = false ∧ ∃ us, Vals vs us ∧ h.DictOfH (nestedKind P w) d (ks.zip (bs.zip us)) := by
  obtain ⟨⟨z, hd, nd, hdep, us, o, es, hv, h1, h2, h3, h4⟩, _, _⟩ := (show ObjOk P w H h d (.ext (NdP w d ep ks bs vs)) from ok d _ e)
  have l1 := hv.length
  have l2 := hk.1
  refine ⟨z, hd, us, hv, o, es, ep, h1, h2, h3, h4, fun x hx => ?_, ?_⟩
  · obtain ⟨i, hi, e⟩ := List.mem_iff_getElem.mp hx
    simp only [List.length_zip] at hi
    rw [List.getElem_zip, List.getElem_zip] at e
    subst e
    refine ⟨nested_of ok (hk.2 i _ _ (List.getElem?_eq_getElem (by omega)) (List.getElem?_eq_getElem (by omega))) rfl, hdep _ (List.getElem_mem _)⟩
  · rw [List.map_fst_zip (by simp; omega)]; exact nd
/-- its object is new -/
theorem nd_new {H' : Hp} {us : List Value} (dd : h.DictOfH (nestedKind P w) d (ks.zip (bs.zip us))) (hv : Vals vs us) (l1 : ks.length = vs.length) (l2 : bs.length = ks.length) (z : vs.length ≤ sizeLine) (hd : (d == sysModules) = false) :
    ∃ ep, ObjOk P w H' h d (NdO w d ep ks bs vs) := by
  obtain ⟨o, es, ep, h1, h2, h3, h4, h5, h6⟩ := dd
  have l3 := hv.length
  have e1 : (ks.zip (bs.zip us)).map (·.1) = ks := List.map_fst_zip (by simp; omega)
  rw [e1] at h6
  refine ⟨ep, ⟨z, hd, h6, fun k hk => ?_, us, o, es, hv, h1, h2, h3, h4⟩, ⟨o, h1⟩, fun x y q m => ?_⟩
  · rw [← e1] at hk
    obtain ⟨x, hx, rfl⟩ := List.mem_map.mp hk
    exact (h5 x hx).2
  · obtain ⟨a, b, c, e, us, o, es, g1, g2, g3⟩ := q
    exact ⟨a, b, c, e, us, o, es, g1, m _ g2, g3⟩
end
theorem nk_room {P : Program} {w : World} {A : Around} (hu : A.units + 64 < cLine) : (nestedKind P w).room A.in1 := by
  show A.units + 1 + 8 < cLine; omega

/-! ### {} -/
def tDNewN (w : World) : TE := fun _ H Q => ∀ p, H p = none → Q (.ref p) (upd H p (NdO w p 0 [] [] []))
theorem nd_empty {P : Program} {w : World} {H : Hp} (h : Heap) (hb : sysModules < h.objs.size) : ObjOk P w H (h.push { cls := .type "dict", data := .dict #[] }) h.objs.size (NdO w h.objs.size 0 [] [] []) := by
  refine ⟨⟨Nat.zero_le _, ?_, List.nodup_nil, (fun k hk => nomatch hk), [], _, #[], .nil, Heap.get?_push_size _ rfl, ⟨rfl, rfl, rfl⟩, rfl, rfl⟩, ⟨_, Heap.get?_push_size _ rfl⟩, fun x y q m => ?_⟩
  · rw [beq_eq_false_iff_ne]; exact Nat.ne_of_gt hb
  · obtain ⟨a, b, c, e, us, o, es, g1, g2, g3⟩ := q
    exact ⟨a, b, c, e, us, o, es, g1, m _ g2, g3⟩
theorem pe_dnewN {X : Cx} {pos : Pos} : PE X (.Dict [] [] pos) (tDNewN X.w) := ⟨fun pins s σ H Q I h =>
  wpAny_Dict_empty ⟨.ref s.heap.objs.size, _, I.laid (a := s.heap.objs.size) (o := NdO X.w s.heap.objs.size 0 [] [] []) (t' := s.toks) (fun _ _ q => Heap.get?_push_of_some _ q) (Nat.le_refl _) (nd_empty s.heap I.big), rfl, h _ (I.hok.fresh (Nat.le_refl _))⟩⟩
def mDNewN : ME := fun _ cs => .ok (.pt cs.length) (cs ++ [.dN [] []])
theorem kats_nil {B : Hp} : KAts B [] [] := ⟨rfl, fun i b k h => nomatch h⟩
theorem x_dnewN {X : Cx} {E : XK} {pos : Pos} : XE X E (.Dict [] [] pos) (tDNewN X.w) mDNewN := ⟨pe_dnewN, fun F B H ads cs σ ρ Q w l h d hd => by
  have w' : Wok (fx X) F B (upd H d (NdO X.w d 0 [] [] [])) (ads ++ [d]) (cs ++ [.dN [] []]) := w.push hd ⟨w.same.free hd, [], 0, [], upd_same, rfl, kats_nil, .nil⟩
  refine h B _ _ _ (Same.refl _) (List.prefix_append _ _) w' (.pt ?_)
  rw [← w.len, List.getElem?_append_right (Nat.le_refl _)]
  simp⟩

/-! ### views -/
mutual
def keyN : T → Option NestedKey
  | .non => some .none
  | .int i => some (.num i)
  | .str x => some (.text x)
  | .tup ts => (keyNs ts).map .tup
  | _ => none
def keyNs : List T → Option (List NestedKey)
  | [] => some []
  | t :: ts => match keyN t, keyNs ts with
    | some k, some ks => some (k :: ks)
    | _, _ => none
end
theorem keyNs_get : ∀ {ts : List T} {ks : List NestedKey}, keyNs ts = some ks → ks.length = ts.length ∧ ∀ (i : Nat) (k : NestedKey), ks[i]? = some k → ∃ t, ts[i]? = some t ∧ keyN t = some k
  | [], ks, h => by rw [keyNs] at h; cases h; exact ⟨rfl, fun i k h => nomatch h⟩
  | t :: ts, ks, h => by
    rw [keyNs] at h
    split at h
    · rename_i k1 ks1 a1 a2
      cases h
      obtain ⟨l, g⟩ := keyNs_get a2
      refine ⟨by simp [l], fun i k hk => ?_⟩
      cases i with
      | zero => cases hk; exact ⟨t, rfl, a1⟩
      | succ i => exact g i k hk
    · cases h
mutual
theorem keyN_rep {K : Fg} {B : Hp} : ∀ (t : T) (v : V) (k : NestedKey), Rep K B v t → keyN t = some k → KRep B v k
  | .non, v, k, r, h => by rw [keyN] at h; cases h; cases r; exact .non
  | .int i, v, k, r, h => by rw [keyN] at h; cases h; cases r; exact .num i
  | .str i, v, k, r, h => by rw [keyN] at h; cases h; cases r; exact .text i
  | .tup ts, v, k, r, h => by
    rw [keyN] at h
    obtain ⟨ks, h1, rfl⟩ := Option.map_eq_some_iff.mp h
    cases r with
    | tup e rs =>
      obtain ⟨l, _⟩ := keyNs_get h1
      exact .tup e (by rw [l]; exact rs.length) (keyNs_rep ts _ ks rs h1)
  | .bl _, _, _, _, h | .ty _, _, _, _, h | .rf _, _, _, _, h | .lst _, _, _, _, h | .scr _, _, _, _, h | .wtp _, _, _, _, h | .ins _ _ _, _, _, _, h | .dK _ _, _, _, _, h | .dT _ _, _, _, _, h | .dN _ _, _, _, _, h => by simp [keyN] at h
theorem keyNs_rep {K : Fg} {B : Hp} : ∀ (ts : List T) (vs : List V) (ks : List NestedKey), Reps K B vs ts → keyNs ts = some ks → ∀ (i : Nat) (v : V) (k : NestedKey), vs[i]? = some v → ks[i]? = some k → KRep B v k
  | [], vs, ks, r, h, i, v, k, h1, h2 => by cases r; cases h1
  | t :: ts, vs, ks, r, h, i, v, k, h1, h2 => by
    cases r with
    | cons r0 rs =>
      rw [keyNs] at h
      split at h
      · rename_i k1 ks1 a1 a2
        cases h
        cases i with
        | zero => cases h1; cases h2; exact keyN_rep t _ _ r0 a1
        | succ i => exact keyNs_rep ts _ ks1 rs a2 i v k h1 h2
      · cases h
end
def keyWN : W → Option NestedKey
  | .cl (.tup ts) => (keyNs ts).map .tup
  | _ => none
theorem keyWN_ok {K : Fg} {F B H : Hp} {ads : List Addr} {cs : Cs} {v : V} {x : W} (w : Wok K F B H ads cs) (r : RepW K B ads v x) {k : NestedKey} (h : keyWN x = some k) : ∃ b, v = .ref b ∧ KRep B (.ref b) k := by
  unfold keyWN at h
  split at h
  · rename_i ts
    cases r with
    | cl r =>
      have q := keyN_rep (.tup ts) v k r (by rw [keyN]; exact h)
      cases r with
      | tup e rs => exact ⟨_, rfl, q⟩
  · cases h
def ndW (cs : Cs) : W → Option (List NestedKey × List W)
  | .cl (.dN ks ts) => some (ks, ts.map .cl)
  | .pt i => match cs[i]? with
    | some (.dN ks ws) => some (ks, ws)
    | some (.fz (.dN ks ts)) => some (ks, ts.map .cl)
    | _ => none
  | _ => none
theorem ndW_ok {K : Fg} {F B H : Hp} {ads : List Addr} {cs : Cs} {v : V} {x : W} (w : Wok K F B H ads cs) (r : RepW K B ads v x) {ks : List NestedKey} {ws : List W} (h : ndW cs x = some (ks, ws)) :
    ∃ (a : Addr) (ep : Nat) (bs : List Addr) (vs : List V), v = .ref a ∧ H a = some (NdO K.w a ep ks bs vs) ∧ ks.length = vs.length ∧ KAts B bs ks ∧ RepWs K B ads vs ws := by
  unfold ndW at h
  split at h
  · cases h
    cases r with | cl r => cases r with | dN a l q b => exact ⟨_, _, _, _, rfl, w.same _ _ a, l, q, .ofT b⟩
  · cases r with
    | pt ha =>
      split at h
      · rename_i e
        cases h
        obtain ⟨_, vs, ep, bs, q, l, kk, rr⟩ := w.cell _ _ _ ha e
        exact ⟨_, _, _, _, rfl, q, l, kk, rr⟩
      · rename_i e
        cases h
        obtain ⟨_, rr⟩ := w.cell _ _ _ ha e
        cases rr with | dN a l q b => exact ⟨_, _, _, _, rfl, w.same _ _ a, l, q, .ofT b⟩
      · cases h
  · cases h
theorem lookN_rep {K : Fg} {B : Hp} {ads : List Addr} {k : NestedKey} : ∀ {ks : List NestedKey} {vs : List V} {ws : List W}, RepWs K B ads vs ws → ks.length = vs.length →
    (∀ x, look ks ws k = some x → ∃ v, look ks vs k = some v ∧ RepW K B ads v x) ∧ (look ks ws k = none → look ks vs k = none)
  | [], _, _, .nil, _ => ⟨fun x h => by simp [look] at h, fun _ => rfl⟩
  | k0 :: ks, _, _, .cons r rs, hl => by
    obtain ⟨i1, i2⟩ := lookN_rep (k := k) (ks := ks) rs (by simpa using hl)
    rw [look_cons, look_cons]
    by_cases h : k0 = k
    · simp only [if_pos h]
      exact ⟨fun x hx => by cases hx; exact ⟨_, rfl, r⟩, fun hx => by cases hx⟩
    · simp only [if_neg h]
      exact ⟨i1, i2⟩

/-! ### methods: a rule with any reason for the type -/
section
variable {X : Cx} {E : XK} {o e : Expr} {es : List Expr} {to : TE} {t : TA} {a : ME} {m : MA} {name : Str} {apos cpos : Pos} {id : String} {r : V → List V → Hp → VK → Prop} {f : W → List W → Cs → R W}
def isNd (w : World) : V → Hp → Prop := fun x H => ∃ (a : Addr) (ep : Nat) (ks : List NestedKey) (bs : List Addr) (vs : List V), x = .ref a ∧ H a = some (NdO w a ep ks bs vs)
theorem isNd_is {pins : List (Addr × Obj)} {σ : L2.St} {H : Hp} {s : Shared} {x : V} {v : Value} (I : Inv X pins σ H s) (r : RelV x v) (h : isNd X.w x H) : s.TypeIs v "dict" ∧ ∀ a, v = .ref a → ∃ ob, s.heap.get? a = some ob ∧ ob.dict = none := by
  obtain ⟨d, ep, ks, bs, vs, rfl, e⟩ := h
  cases r
  obtain ⟨⟨z, hd, nd, hdep, us, o, es, hv, h1, h2, h3, h4⟩, _, _⟩ := (show ObjOk X.prog X.w H s.heap d (.ext (NdP X.w d ep ks bs vs)) from I.hok d _ e)
  exact ⟨⟨o, h1, h2.1⟩, fun a ea => by cases ea; exact ⟨o, h1, h2.2.1⟩⟩
def tNM (w : World) (r : V → List V → Hp → VK → Prop) (to : TE) (t : TA) : TE := fun σ H Q => to σ H fun x H1 => isNd w x H1 ∧ t σ H1 fun xs H2 => r x xs H2 Q
theorem pe_nm (slot : Slot "dict" name id) (hty : typeOf (.builtin id) = pure (.type "method_descriptor")) (hm : MtR X id r) (ho : PE X o to) (ha : PA X (e :: es) t)
    (hbase : attributeBase o name X.env (eval o X.env) = eval o X.env := by rfl)
    (hfew : ((backTo cpos (starEach (e :: es) X.env)).all (fun x => !x.1) && (backToKw cpos (keywordEach [] X.env)).all (fun x => x.1.isSome)
      && decide ((e :: es).length + ([] : List Keyword).length + (if ([] : List Keyword).isEmpty then 0 else 1) < 30)) = true := by rfl)
    (hline : (apos.endLine == cpos.line) = true := by rfl) (hs : starEach (e :: es) X.env = (false, eval e X.env) :: starEach es X.env := by rfl) (hplain : (backTo cpos (starEach es X.env)).any (·.1) = false := by rfl) :
    PE X (.Call (.Attribute o name apos) (e :: es) [] cpos) (tNM X.w r to t) := by
  refine ⟨fun pins s σ H Q I h => ?_⟩
  refine wpAny_Call_method_late hbase hfew hline rfl (thn (ho.run pins s σ H _ I h) fun v s1 ⟨x, H1, I1, r1, ty, q1⟩ => ?_)
  obtain ⟨h1, h2⟩ := isNd_is I1 r1 ty
  refine ⟨"dict", id, PySem.F.plainAttrs_dict, slot, hty, h1, h2, ?_⟩
  have hA := ha.run cpos pins s1 σ H1 _ I1 q1
  rw [hs] at hA ⊢
  refine Calls.callWith_builtin (by show (false || (backTo cpos (starEach es X.env)).any (·.1)) = false; rw [hplain] <;> rfl) (Calls.evalArgs_plain ?_)
  exact thn hA fun us s2 ⟨vs, H2, I2, r2, q2⟩ => hm pins s2 σ H2 x vs v us Q I2 r1 r2 q2
def mNM (f : W → List W → Cs → R W) (a : ME) (m : MA) : ME := fun ρ cs => (a ρ cs).bind fun x cs1 => if (ndW cs1 x).isSome then (m ρ cs1).bind fun xs cs2 => f x xs cs2 else .no
theorem den_nm {K : Fg} (da : DenE K E to a) (d : DenA K E t m) (dr : DenM K r f) : DenE K E (tNM K.w r to t) (mNM f a m) := fun F B H ads cs σ ρ Q w l h => by
  refine da F B H ads cs σ ρ _ w l (wpR_mono (wpR_bind h) (fun x cs1 h1 B1 H1 ads1 v s1 p1 w1 r1 => ?_) fun _ _ h => h)
  split at h1
  · rename_i ty
    obtain ⟨⟨ks, ws⟩, e⟩ := Option.isSome_iff_exists.mp ty
    obtain ⟨a1, ep, bs, vs, rfl, q, _⟩ := ndW_ok w1 r1 e
    refine ⟨⟨a1, ep, ks, bs, vs, rfl, q⟩, ?_⟩
    refine d F B1 H1 ads1 cs1 σ ρ _ w1 (l.mono s1 p1) (wpR_mono (wpR_bind h1) (fun xs cs2 h2 B2 H2 ads2 vs s2 p2 w2 r2 => ?_) fun _ _ h => h.mono s1 p1)
    exact dr E F B2 H2 ads2 cs2 _ x vs xs Q w2 (r1.mono s2 p2) r2 (wpR_mono h2 (fun _ _ h => h.mono (s1.trans s2) (p1.trans p2)) fun _ _ h => h.mono (s1.trans s2) (p1.trans p2))
  · exact h1.elim
structure XN (X : Cx) (id : String) (name : Str) (r : V → List V → Hp → VK → Prop) (f : W → List W → Cs → R W) : Prop where
  slot : Slot "dict" name id
  ty : typeOf (.builtin id) = pure (.type "method_descriptor")
  mt : MtR X id r
  den : DenM (fx X) r f
theorem x_nm (M : XN X id name r f) (ho : XE X E o to a) (ha : XA X E (e :: es) t m)
    (hbase : attributeBase o name X.env (eval o X.env) = eval o X.env := by rfl)
    (hfew : ((backTo cpos (starEach (e :: es) X.env)).all (fun x => !x.1) && (backToKw cpos (keywordEach [] X.env)).all (fun x => x.1.isSome)
      && decide ((e :: es).length + ([] : List Keyword).length + (if ([] : List Keyword).isEmpty then 0 else 1) < 30)) = true := by rfl)
    (hline : (apos.endLine == cpos.line) = true := by rfl) (hs : starEach (e :: es) X.env = (false, eval e X.env) :: starEach es X.env := by rfl) (hplain : (backTo cpos (starEach es X.env)).any (·.1) = false := by rfl) :
    XE X E (.Call (.Attribute o name apos) (e :: es) [] cpos) (tNM X.w r to t) (mNM f a m) := ⟨pe_nm M.slot M.ty M.mt ho.pe ha.pa hbase hfew hline hs hplain, den_nm ho.den ha.den M.den⟩
end
end G

/-! The tree layer, 17: what is done with dicts of nested keys. -/
namespace G
open PySem L2 RZ PyProof.Rows

section
variable {P : Program} {w : World} {H : Hp} {h : Heap} {d : Addr} {ep : Nat} {ks : List NestedKey} {bs : List Addr} {vs : List V}
/-- the dict, the key: as they stand -/
structure NdAt (w : World) (H : Hp) (x y : V) (d b : Addr) (ep : Nat) (ks : List NestedKey) (bs : List Addr) (vs : List V) (k : NestedKey) : Prop where
  ex : x = .ref d
  ey : y = .ref b
  hd : H d = some (NdO w d ep ks bs vs)
  hl : ks.length = vs.length
  hk : KAts H bs ks
  kk : KRep H (.ref b) k
  dp : k.depth ≤ 8
end
theorem KAts.snoc {B : Hp} {bs : List Addr} {ks : List NestedKey} {b : Addr} {k : NestedKey} (h : KAts B bs ks) (r : KRep B (.ref b) k) : KAts B (bs ++ [b]) (ks ++ [k]) := by
  refine ⟨by simp [h.1], fun i b' k' h1 h2 => ?_⟩
  by_cases hi : i < bs.length
  · rw [List.getElem?_append_left hi] at h1
    rw [List.getElem?_append_left (by rw [← h.1]; exact hi)] at h2
    exact h.2 i b' k' h1 h2
  · have e : i = bs.length := by
      have := (List.getElem?_eq_some_iff.mp h1).1
      simp at this; omega
    subst e
    rw [List.getElem?_append_right (Nat.le_refl _)] at h1
    rw [List.getElem?_append_right (by rw [h.1]; exact Nat.le_refl _)] at h2
    simp at h1; simp [h.1] at h2
    subst h1; subst h2; exact r
theorem upd_keep {H : Hp} {a : Addr} {o u : HO} {b : Addr} {t : List V} (ha : H a = some o) (hn : ¬ IsT o) (hb : H b = some (.tup t)) : upd H a u b = some (.tup t) := by
  rw [upd_ne]; exact hb
  rintro rfl
  rw [ha] at hb; cases hb
  exact hn ⟨t, rfl⟩
theorem nd_notT {w : World} {d : Addr} {ep : Nat} {ks : List NestedKey} {bs : List Addr} {vs : List V} : ¬ IsT (NdO w d ep ks bs vs) := fun ⟨_, e⟩ => nomatch e
section
variable {X : Cx} {pins : List (Addr × Obj)} {σ : L2.St} {H : Hp} {s : Shared} {x y : V} {d b : Addr} {ep : Nat} {ks : List NestedKey} {bs : List Addr} {vs : List V} {k : NestedKey}
theorem nd_key (I : Inv X pins σ H s) (n : NdAt X.w H x y d b ep ks bs vs k) : (nestedKind X.prog X.w).is s.heap k b := ⟨nested_of I.hok n.kk rfl, n.dp⟩

/-! ### setdefault -/
def rSetdN (w : World) : V → List V → Hp → VK → Prop := fun x xs H Q => ∃ (a b : Addr) (ep : Nat) (ks : List NestedKey) (bs : List Addr) (vs : List V) (k : NestedKey) (y d : V), xs = [y, d] ∧ NdAt w H x y a b ep ks bs vs k ∧ vs.length < sizeLine ∧
  (∀ v, look ks vs k = some v → Q v H) ∧ (look ks vs k = none → ∀ ep', Q d (upd H a (NdO w a ep' (ks ++ [k]) (bs ++ [b]) (vs ++ [d]))))
theorem zip_snoc3 {ks : List NestedKey} {bs : List Addr} {us : List Value} {k : NestedKey} {b : Addr} {u : Value} (h1 : ks.length = bs.length) (h2 : bs.length = us.length) : ks.zip (bs.zip us) ++ [(k, b, u)] = (ks ++ [k]).zip ((bs ++ [b]).zip (us ++ [u])) := by
  rw [← zip_snoc h2, ← zip_snoc (by simp; omega)]
theorem mt_setdN (hu : X.A.units + 64 < cLine) : MtR X "dict.setdefault" (rSetdN X.w) := by
  intro pins s σ H x xs v us Q I rx rxs h
  obtain ⟨a, b, ep, ks, bs, vs, k, y, d, rfl, n, hz, h1, h2⟩ := h
  have hkey := nd_key I n
  obtain ⟨rfl, rfl, hd, hl, hk, kk, dp⟩ := n
  cases rx
  obtain ⟨ub, ud, rfl, rb, rd⟩ := Vals.two rxs
  cases rb
  obtain ⟨z, hm, vu, rel, dd⟩ := nd_rd I.hok hd hk hl
  have l3 := rel.length
  obtain ⟨g1, g2⟩ := atKey_look (k := k) rel hl hk.1
  refine PySem.call_setdefault_heap (hsz := by rw [List.length_zip, List.length_zip]; omega) (nk_room hu) hkey hm dd (fun p hp => ?_) fun hn h' dd' hs => ?_
  · cases q0 : look ks vs k with
    | none => rw [g2 q0] at hp; cases hp
    | some v0 =>
      obtain ⟨p', e1, e2⟩ := g1 v0 q0
      rw [hp] at e1; cases e1
      exact ⟨v0, H, I.tok _, e2, h1 v0 q0⟩
  · cases q0 : look ks vs k with
    | some v0 => obtain ⟨p', e1, e2⟩ := g1 v0 q0; rw [hn] at e1; cases e1
    | none =>
      rw [storedH_new hn, zip_snoc3 hk.1.symm (by have := hk.1; omega)] at dd'
      obtain ⟨ep', new⟩ := nd_new (H' := upd H a (NdO X.w a ep (ks ++ [k]) (bs ++ [b]) (vs ++ [d]))) dd' (rel.append (.cons rd .nil)) (by simp [hl]) (by simp [hk.1]) (by simp; omega) hm
      have new' : ObjOk X.prog X.w (upd H a (NdO X.w a ep' (ks ++ [k]) (bs ++ [b]) (vs ++ [d]))) h' a (NdO X.w a ep' (ks ++ [k]) (bs ++ [b]) (vs ++ [d])) := new
      obtain ⟨o, hq⟩ := new.2.1
      exact ⟨d, _, d_write (ob := NdO X.w a ep' (ks ++ [k]) (bs ++ [b]) (vs ++ [d])) (t' := s.toks + (nestedKind X.prog X.w).draws k) I (by rw [hd]; exact True.intro) hs ⟨o, hq⟩ new', rd, h2 q0 ep'⟩
end
def fSetdN : W → List W → Cs → R W := fun x ys cs => match x, ys with
  | .pt i, [y, d] => match cs[i]?, keyWN y with
    | some (.dN ks ws), some k => if ks.length < LIM ∧ k.depth ≤ 8 then (match look ks ws k with
      | some w => .ok w cs
      | none => .ok d (cs.set i (.dN (ks ++ [k]) (ws ++ [d])))) else .no
    | _, _ => .no
  | _, _ => .no
theorem m_setdN {X : Cx} (hu : X.A.units + 64 < cLine) : XN X "dict.setdefault" "setdefault" (rSetdN X.w) fSetdN := ⟨PySem.F.slot_dict_setdefault, PySem.F.type_dict_setdefault, mt_setdN hu, fun E F B H ads cs x v xs vs Q w r rs h => by
  unfold fSetdN at h
  split at h
  · rename_i i y d
    split at h
    · rename_i ks ws k hc hk
      split at h
      · rename_i hlt
        cases r with
        | pt ha =>
          obtain ⟨hb, us, ep, bs, hv, hl, kk, rr⟩ := w.cell i _ _ ha hc
          cases rs with | cons r1 r2 => cases r2 with | cons r2 r3 =>
            cases r3
            rename_i ky dv
            obtain ⟨b, rfl, eb⟩ := keyWN_ok w r1 hk
            obtain ⟨L1, L2⟩ := lookN_rep (k := k) rr hl
            have hz : us.length < sizeLine := by rw [← hl]; exact Nat.lt_trans hlt.1 lim_line
            have nn : NdAt X.w H (.ref _) (.ref b) _ b ep ks bs us k := ⟨rfl, rfl, hv, hl, kk.mono w.same, eb.mono w.same, hlt.2⟩
            cases e : look ks ws k with
            | some w0 =>
              rw [e] at h
              obtain ⟨v0, h0, r0⟩ := L1 w0 e
              refine ⟨_, b, ep, ks, bs, us, k, _, dv, rfl, nn, hz, fun v' hv' => ?_, fun z => ?_⟩
              · rw [h0] at hv'; cases hv'; exact PostV.now w r0 h
              · rw [h0] at z; cases z
            | none =>
              rw [e] at h
              have hn := L2 e
              refine ⟨_, b, ep, ks, bs, us, k, _, dv, rfl, nn, hz, fun v' hv' => by rw [hn] at hv'; (cases hv'), fun _ ep' => ?_⟩
              exact h B _ ads _ (Same.refl _) (List.prefix_refl _) (w.put (c := .dN (ks ++ [k]) (ws ++ [d])) ha hb ⟨hb, us ++ [_], ep', bs ++ [b], upd_same, by simp [hl], kk.snoc eb, rr.append (.cons r2 .nil)⟩) r2
      · exact h.elim
    · exact h.elim
  · exact h.elim⟩

/-! ### d[k], k in d, d.get(k) -/
section
variable {X : Cx}
def rDGetN (w : World) : R2 := fun x y H Q => ∃ d b ep ks bs vs k v, NdAt w H x y d b ep ks bs vs k ∧ look ks vs k = some v ∧ Q v H
theorem nd_ty {s : Shared} {d : Addr} {xs : List (NestedKey × Addr × Value)} (dd : s.heap.DictOfH (nestedKind X.prog X.w) d xs) : s.TypeIs (.ref d) "dict" := dd.typeIs
theorem ix_dN (hu : X.A.units + 64 < cLine) : IxR X (rDGetN X.w) := by
  intro value slice pins s σ H x y v u Q I rx ry q hs
  obtain ⟨d, b, ep, ks, bs, vs, k, v0, n, hv, q⟩ := q
  have hkey := nd_key I n
  obtain ⟨rfl, rfl, hd, hl, hk, kk, dp⟩ := n
  cases rx; cases ry
  obtain ⟨z, hm, vu, rel, dd⟩ := nd_rd I.hok hd hk hl
  obtain ⟨g1, _⟩ := atKey_look (k := k) rel hl hk.1
  obtain ⟨p, e1, e2⟩ := g1 v0 hv
  exact PyProof.Rows.subscriptTail_builtinR (x := p.2) (nd_ty dd) PySem.F.slot_dict_getitem.lookup (wpAny_getItem_heap (nk_room hu) hkey dd e1 ⟨rfl, v0, H, I.tok _, e2, q⟩) hs
def rInN (w : World) (neg : Bool) : R2 := fun y x H Q => ∃ d b ep ks bs vs k, NdAt w H x y d b ep ks bs vs k ∧ Q (.bl (if neg then !(look ks vs k).isSome else (look ks vs k).isSome)) H
theorem nd_some {k : NestedKey} {ks : List NestedKey} {bs : List Addr} {vs : List V} {us : List Value} (rel : Vals vs us) (hl : ks.length = vs.length) (hk : bs.length = ks.length) : (atKey (ks.zip (bs.zip us)) k).isSome = (look ks vs k).isSome := by
  obtain ⟨g1, g2⟩ := atKey_look (k := k) rel hl hk
  cases e : look ks vs k with
  | none => rw [g2 e]; rfl
  | some v => obtain ⟨p, e1, _⟩ := g1 v e; rw [e1]; rfl
theorem op_inN (hu : X.A.units + 64 < cLine) : OpR X (compareOp .In) (rInN X.w false) := by
  intro pins s σ H y x u v Q I ry rx q
  obtain ⟨d, b, ep, ks, bs, vs, k, n, q⟩ := q
  have hkey := nd_key I n
  obtain ⟨rfl, rfl, hd, hl, hk, kk, dp⟩ := n
  cases rx; cases ry
  obtain ⟨z, hm, vu, rel, dd⟩ := nd_rd I.hok hd hk hl
  refine wpAny_in_heap (nk_room hu) hkey hm dd ?_
  rw [nd_some rel hl hk.1]
  exact ⟨.bl _, H, I.tok _, rfl, q⟩
theorem op_ninN (hu : X.A.units + 64 < cLine) : OpR X (compareOp .NotIn) (rInN X.w true) := by
  intro pins s σ H y x u v Q I ry rx q
  obtain ⟨d, b, ep, ks, bs, vs, k, n, q⟩ := q
  have hkey := nd_key I n
  obtain ⟨rfl, rfl, hd, hl, hk, kk, dp⟩ := n
  cases rx; cases ry
  obtain ⟨z, hm, vu, rel, dd⟩ := nd_rd I.hok hd hk hl
  refine wpAny_notIn_heap (nk_room hu) hkey hm dd ?_
  rw [nd_some rel hl hk.1]
  exact ⟨.bl _, H, I.tok _, rfl, q⟩
def rGetN (w : World) : V → List V → Hp → VK → Prop := fun x xs H Q => ∃ (d b : Addr) (ep : Nat) (ks : List NestedKey) (bs : List Addr) (vs : List V) (k : NestedKey) (y : V), xs = [y] ∧ NdAt w H x y d b ep ks bs vs k ∧ Q ((look ks vs k).getD .non) H
theorem mt_getN (hu : X.A.units + 64 < cLine) : MtR X "dict.get" (rGetN X.w) := by
  intro pins s σ H x xs v us Q I rx rxs h
  obtain ⟨d, b, ep, ks, bs, vs, k, y, rfl, n, q⟩ := h
  have hkey := nd_key I n
  obtain ⟨rfl, rfl, hd, hl, hk, kk, dp⟩ := n
  cases rx
  obtain ⟨ub, rfl, rb⟩ := Vals.one rxs
  cases rb
  obtain ⟨z, hm, vu, rel, dd⟩ := nd_rd I.hok hd hk hl
  obtain ⟨g1, g2⟩ := atKey_look (k := k) rel hl hk.1
  refine PySem.get_keyed (nk_room hu) hkey hm ⟨_, dd, rfl⟩ ?_
  rw [valueAt_pairsH]
  cases e : look ks vs k with
  | none => rw [g2 e]; rw [e] at q; exact ⟨.non, H, I.tok _, rfl, q⟩
  | some v0 =>
    obtain ⟨p, e1, e2⟩ := g1 v0 e
    rw [e1]; rw [e] at q
    exact ⟨v0, H, I.tok _, e2, q⟩
end
section
variable {K : Fg} {F B H : Hp} {ads : List Addr} {cs : Cs} {v u : V} {x y : W}
theorem ndAt_of (w : Wok K F B H ads cs) (r1 : RepW K B ads v x) (r2 : RepW K B ads u y) {ks : List NestedKey} {ws : List W} {k : NestedKey} (h1 : ndW cs x = some (ks, ws)) (h2 : keyWN y = some k) (hd : k.depth ≤ 8) :
    ∃ d b ep bs vs, NdAt K.w H v u d b ep ks bs vs k ∧ RepWs K B ads vs ws := by
  obtain ⟨a, ep, bs, vs, rfl, q, l, kk, rr⟩ := ndW_ok w r1 h1
  obtain ⟨b, rfl, eb⟩ := keyWN_ok w r2 h2
  exact ⟨a, b, ep, bs, vs, ⟨rfl, rfl, q, l, kk.mono w.same, eb.mono w.same, hd⟩, rr⟩
end
def fDGetN : W → W → Cs → R W := fun x y cs => match ndW cs x, keyWN y with
  | some (ks, ws), some k => if k.depth ≤ 8 then (match look ks ws k with
    | some w => .ok w cs
    | none => .no) else .no
  | _, _ => .no
def fInN (neg : Bool) : W → W → Cs → R W := fun y x cs => match ndW cs x, keyWN y with
  | some (ks, ws), some k => if k.depth ≤ 8 then .ok (.cl (.bl (if neg then !(look ks ws k).isSome else (look ks ws k).isSome))) cs else .no
  | _, _ => .no
def fGetN : W → List W → Cs → R W := fun x ys cs => match ys with
  | [y] => match ndW cs x, keyWN y with
    | some (ks, ws), some k => if k.depth ≤ 8 then .ok ((look ks ws k).getD (.cl .non)) cs else .no
    | _, _ => .no
  | _ => .no
theorem den_dgetN {K : Fg} : Den2 K (rDGetN K.w) fDGetN := fun E F B H ads cs x y v u Q w rx ry h => by
  unfold fDGetN at h
  split at h
  · rename_i ks ws k h1 h2
    split at h
    · rename_i hd
      obtain ⟨d, b, ep, bs, vs, n, rr⟩ := ndAt_of w rx ry h1 h2 hd
      obtain ⟨L1, L2⟩ := lookN_rep (k := k) rr n.hl
      cases e : look ks ws k with
      | none => rw [e] at h; exact h.elim
      | some w0 =>
        rw [e] at h
        obtain ⟨v0, h0, r0⟩ := L1 w0 e
        exact ⟨d, b, ep, ks, bs, vs, k, v0, n, h0, PostV.now w r0 h⟩
    · exact h.elim
  · exact h.elim
theorem lookN_some {K : Fg} {B : Hp} {ads : List Addr} {k : NestedKey} {ks : List NestedKey} {vs : List V} {ws : List W} (rr : RepWs K B ads vs ws) (hl : ks.length = vs.length) : (look ks vs k).isSome = (look ks ws k).isSome := by
  obtain ⟨L1, L2⟩ := lookN_rep (k := k) rr hl
  cases e : look ks ws k with
  | none => rw [L2 e]; rfl
  | some w0 => obtain ⟨v0, h0, _⟩ := L1 w0 e; rw [h0]; rfl
theorem den_inN {K : Fg} (neg : Bool) : Den2 K (rInN K.w neg) (fInN neg) := fun E F B H ads cs y x u v Q w ry rx h => by
  unfold fInN at h
  split at h
  · rename_i ks ws k h1 h2
    split at h
    · rename_i hd
      obtain ⟨d, b, ep, bs, vs, n, rr⟩ := ndAt_of w rx ry h1 h2 hd
      refine ⟨d, b, ep, ks, bs, vs, k, n, ?_⟩
      rw [lookN_some rr n.hl]
      exact PostV.cl w (.bl _) h
    · exact h.elim
  · exact h.elim
section
variable {X : Cx} {E : XK}
theorem x_dgetN {o i : Expr} {to ti : TE} {a b : ME} {pos : Pos} (hu : X.A.units + 64 < cLine) (ho : XE X E o to a) (hi : XE X E i ti b) (hs : PlainIx i := by intro _ _; rfl) : XE X E (.Subscript o i pos) (tOp (rDGetN X.w) to ti) (mOp fDGetN a b) :=
  ⟨pe_ix (ix_dN hu) ho.pe hi.pe hs, den_op ho.den hi.den den_dgetN⟩
theorem o_inN (hu : X.A.units + 64 < cLine) : XO2 X (compareOp .In) (rInN X.w false) (fInN false) := ⟨op_inN hu, den_inN false⟩
theorem o_ninN (hu : X.A.units + 64 < cLine) : XO2 X (compareOp .NotIn) (rInN X.w true) (fInN true) := ⟨op_ninN hu, den_inN true⟩
theorem m_getN (hu : X.A.units + 64 < cLine) : XN X "dict.get" "get" (rGetN X.w) fGetN := ⟨PySem.F.slot_dict_get, PySem.F.type_dict_get, mt_getN hu, fun E F B H ads cs x v xs vs Q w r rs h => by
  unfold fGetN at h
  split at h
  · rename_i y
    split at h
    · rename_i ks ws k h1 h2
      split at h
      · rename_i hd
        cases rs with | cons r1 r2 =>
          cases r2
          obtain ⟨d, b, ep, bs, vs, n, rr⟩ := ndAt_of w r r1 h1 h2 hd
          refine ⟨d, b, ep, ks, bs, vs, k, _, rfl, n, ?_⟩
          obtain ⟨L1, L2⟩ := lookN_rep (k := k) rr n.hl
          cases e : look ks ws k with
          | none => rw [e] at h; rw [L2 e]; exact PostV.cl w .non h
          | some w0 =>
            rw [e] at h
            obtain ⟨v0, h0, r0⟩ := L1 w0 e
            rw [h0]; exact PostV.now w r0 h
      · exact h.elim
    · exact h.elim
  · exact h.elim⟩
end

/-! ### d[k] = v -/
def setAtK {κ α : Type} [DecidableEq κ] (ks : List κ) (ws : List α) (k : κ) (v : α) : List α := ws.set (ks.idxOf k) v
def rSetN (w : World) : TSet := fun x y v H Q => ∃ (a b : Addr) (ep : Nat) (ks : List NestedKey) (bs : List Addr) (vs : List V) (k : NestedKey), NdAt w H x y a b ep ks bs vs k ∧ vs.length < sizeLine ∧
  (k ∈ ks → ∀ ep', Q (upd H a (NdO w a ep' ks bs (setAtK ks vs k v)))) ∧ (k ∉ ks → ∀ ep', Q (upd H a (NdO w a ep' (ks ++ [k]) (bs ++ [b]) (vs ++ [v]))))
theorem look_mem {κ α : Type} [DecidableEq κ] {k : κ} : ∀ {ks : List κ} {vs : List α}, ks.length = vs.length → ((look ks vs k).isSome ↔ k ∈ ks)
  | [], [], _ => by simp [look]
  | k0 :: ks, v0 :: vs, h => by
    rw [look_cons]
    by_cases e : k0 = k
    · simp [e]
    · rw [if_neg e, look_mem (by simpa using h)]
      have : ¬ k = k0 := fun q => e q.symm
      simp [this]
theorem putAt_zip {k : NestedKey} {u : Value} : ∀ {ks : List NestedKey} {bs : List Addr} {us : List Value}, ks.Nodup → k ∈ ks → ks.length = bs.length → bs.length = us.length → (ks.zip (bs.zip us)).map (putAt k u) = ks.zip (bs.zip (setAtK ks us k u))
  | k0 :: ks, b0 :: bs, u0 :: us, nd, hm, h1, h2 => by
    rw [List.nodup_cons] at nd
    by_cases e : k0 = k
    · subst e
      have same : (ks.zip (bs.zip us)).map (putAt k0 u) = ks.zip (bs.zip us) := by
        conv => rhs; rw [← List.map_id (ks.zip (bs.zip us))]
        refine List.map_congr_left fun x hx => ?_
        have : x.1 ∈ ks := (List.of_mem_zip hx).1
        have ne : ¬ x.1 = k0 := fun q => nd.1 (by rw [← q]; exact this)
        simp [putAt, ne]
      simp [setAtK, putAt, same]
    · have hm' : k ∈ ks := by
        rcases List.mem_cons.mp hm with q | q
        · exact absurd q.symm e
        · exact q
      have ih := putAt_zip (k := k) (u := u) (us := us) nd.2 hm' (by simpa using h1) (by simpa using h2)
      simp only [List.zip_cons_cons, List.map_cons, ih, setAtK, List.idxOf_cons]
      have : (k0 == k) = false := by simpa using e
      simp [this, putAt, e]
theorem setAtK_len {κ α : Type} [DecidableEq κ] (ks : List κ) (ws : List α) (k : κ) (v : α) : (setAtK ks ws k v).length = ws.length := by simp [setAtK]
section
variable {X : Cx}
theorem set_dN (hu : X.A.units + 64 < cLine) : PSet X (rSetN X.w) := by
  intro pins s σ H o i v ov iv u Q I ro ri rv h
  obtain ⟨a, b, ep, ks, bs, vs, k, n, hz, h1, h2⟩ := h
  have hkey := nd_key I n
  obtain ⟨rfl, rfl, hd, hl, hk, kk, dp⟩ := n
  cases ro; cases ri
  obtain ⟨z, hm, vu, rel, dd⟩ := nd_rd I.hok hd hk hl
  have l3 := rel.length
  have sm := nd_some (k := k) rel hl hk.1
  have mm := look_mem (k := k) hl
  have e1 : (ks.zip (bs.zip vu)).map (·.1) = ks := List.map_fst_zip (by have := hk.1; simp; omega)
  have nd : ks.Nodup := by
    obtain ⟨_, _, _, _, _, _, _, _, q⟩ := id dd
    rw [e1] at q; exact q
  refine wpAny_setItem_heap (hsz := by rw [List.length_zip, List.length_zip]; omega) (nk_room hu) hkey dd fun h' dd' hs => ?_
  by_cases hin : k ∈ ks
  · obtain ⟨p, hp⟩ := Option.isSome_iff_exists.mp (sm.trans (mm.mpr hin))
    rw [storedH_old hp, putAt_zip nd hin hk.1.symm (by have := hk.1; omega)] at dd'
    obtain ⟨ep', new⟩ := nd_new (H' := upd H a (NdO X.w a ep ks bs (setAtK ks vs k v))) dd' (rel.set rv _) (by rw [List.length_set]; exact hl) hk.1 (by rw [List.length_set]; exact z) hm
    have new' : ObjOk X.prog X.w (upd H a (NdO X.w a ep' ks bs (setAtK ks vs k v))) h' a (NdO X.w a ep' ks bs (setAtK ks vs k v)) := new
    obtain ⟨ob, hq⟩ := new.2.1
    exact ⟨_, d_write (ob := NdO X.w a ep' ks bs (setAtK ks vs k v)) (t' := s.toks + (nestedKind X.prog X.w).draws k) I (by rw [hd]; exact True.intro) hs ⟨ob, hq⟩ new', h1 hin ep'⟩
  · have hn : atKey (ks.zip (bs.zip vu)) k = none := by
      cases e : atKey (ks.zip (bs.zip vu)) k with
      | none => rfl
      | some p => rw [e] at sm; exact absurd (mm.mp sm.symm) hin
    rw [storedH_new hn, zip_snoc3 hk.1.symm (by have := hk.1; omega)] at dd'
    obtain ⟨ep', new⟩ := nd_new (H' := upd H a (NdO X.w a ep (ks ++ [k]) (bs ++ [b]) (vs ++ [v]))) dd' (rel.append (.cons rv .nil)) (by simp [hl]) (by simp [hk.1]) (by simp; omega) hm
    have new' : ObjOk X.prog X.w (upd H a (NdO X.w a ep' (ks ++ [k]) (bs ++ [b]) (vs ++ [v]))) h' a (NdO X.w a ep' (ks ++ [k]) (bs ++ [b]) (vs ++ [v])) := new
    obtain ⟨ob, hq⟩ := new.2.1
    exact ⟨_, d_write (ob := NdO X.w a ep' (ks ++ [k]) (bs ++ [b]) (vs ++ [v])) (t' := s.toks + (nestedKind X.prog X.w).draws k) I (by rw [hd]; exact True.intro) hs ⟨ob, hq⟩ new', h2 hin ep'⟩
end
def fSetN : W → W → W → Cs → R Loc → R Loc := fun o i v cs k => match o with
  | .pt j => match cs[j]?, keyWN i with
    | some (.dN ks ws), some key => if ks.length < LIM ∧ key.depth ≤ 8 then (if key ∈ ks then (match k with
        | .ok ρ _ => .ok ρ (cs.set j (.dN ks (setAtK ks ws key v)))
        | _ => .no) else (match k with
        | .ok ρ _ => .ok ρ (cs.set j (.dN (ks ++ [key]) (ws ++ [v])))
        | _ => .no)) else .no
    | _, _ => .no
  | _ => .no
def mgSubN (a b : ME) : MG := fun w ρ cs => (a ρ cs).bind fun o cs1 => (b ρ cs1).bind fun i cs2 => fSetN o i w cs2 (.ok ρ cs2)
theorem setAt_rep {K : Fg} {B : Hp} {ads : List Addr} {ks : List NestedKey} {vs : List V} {ws : List W} {k : NestedKey} {v : V} {x : W} (h : RepWs K B ads vs ws) (r : RepW K B ads v x) : RepWs K B ads (setAtK ks vs k v) (setAtK ks ws k x) := h.set r _
theorem den_gSubN {K : Fg} {E : XK} {to ti : TE} {a b : ME} (da : DenE K E to a) (db : DenE K E ti b) : DenG K E (gSub to ti (rSetN K.w)) (mgSubN a b) := fun F B H ads cs σ ρ v w Q wk l r h => by
  refine da F B H ads cs σ ρ _ wk l (wpR_mono (wpR_bind h) (fun o cs1 h1 B1 H1 ads1 ov s1 p1 w1 r1 => ?_) fun _ _ h => h)
  refine db F B1 H1 ads1 cs1 σ ρ _ w1 (l.mono s1 p1) (wpR_mono (wpR_bind h1) (fun i cs2 h2 B2 H2 ads2 iv s2 p2 w2 r2 => ?_) fun _ _ h => h.mono s1 p1)
  have s12 := s1.trans s2
  have p12 := p1.trans p2
  unfold fSetN at h2
  split at h2
  · rename_i j
    split at h2
    · rename_i ks ws key hj hkey
      split at h2
      · rename_i hlt
        cases r1 with
        | pt ha =>
          have ha2 := pre_get p2 ha
          obtain ⟨hb, vs, ep, bs, hv, hl, kk, rr⟩ := w2.cell j _ _ ha2 hj
          obtain ⟨b, rfl, eb⟩ := keyWN_ok w2 r2 hkey
          have hz : vs.length < sizeLine := by rw [← hl]; exact Nat.lt_trans hlt.1 lim_line
          refine ⟨_, b, ep, ks, bs, vs, key, ⟨rfl, rfl, hv, hl, kk.mono w2.same, eb.mono w2.same, hlt.2⟩, hz, fun hin ep' => ?_, fun hin ep' => ?_⟩
          · rw [if_pos hin] at h2
            exact h2 B2 _ ads2 σ s12 p12 (w2.put (c := .dN ks (setAtK ks ws key w)) ha2 hb ⟨hb, _, ep', bs, upd_same, by rw [setAtK_len]; exact hl, kk, setAt_rep rr (r.mono s12 p12)⟩) (l.mono s12 p12)
          · rw [if_neg hin] at h2
            exact h2 B2 _ ads2 σ s12 p12 (w2.put (c := .dN (ks ++ [key]) (ws ++ [w])) ha2 hb ⟨hb, vs ++ [v], ep', bs ++ [b], upd_same, by simp [hl], kk.snoc eb, rr.append (.cons (r.mono s12 p12) .nil)⟩) (l.mono s12 p12)
      · exact h2.elim
    · exact h2.elim
  · exact h2.elim
theorem xg_subN {X : Cx} {E : XK} {o i : Expr} {to ti : TE} {a b : ME} {pos : Pos} (hu : X.A.units + 64 < cLine) (ho : XE X E o to a) (hi : XE X E i ti b)
    (ha : ∀ v, assign (.Subscript o i pos) X.env v = (do
      let ov ← holding [v] (eval o X.env)
      let iv ← holding [v, ov] (eval i X.env)
      standAt pos
      holding [v, ov, iv] (setItem ov iv v)
      release [v, ov, iv] []) := by intro _; rfl) : XG X E (.Subscript o i pos) (gSub to ti (rSetN X.w)) (mgSubN a b) := ⟨pg_sub ho.pe hi.pe (set_dN hu) ha, den_gSubN ho.den hi.den⟩

/-! ### d.values() -/
def ItvN (w : World) (d : Addr) (ep : Nat) (ks : List NestedKey) (bs : List Addr) (vs : List V) : It :=
  ⟨fun i H => H d = some (NdO w d ep ks bs vs) ∧ i < vs.length, fun i H x H' => H' = H ∧ vs[i]? = some x, fun i H => H d = some (NdO w d ep ks bs vs) ∧ vs.length ≤ i⟩
section
variable {P : Program} {w : World} {K : PySem.W.Frag} {tg : Expr} {d : Addr} {ep : Nat} {ks : List NestedKey} {bs : List Addr} {vs : List V}
theorem nd_raw {H : Hp} {h : Heap} (ok : HOk P w H h) (e : H d = some (NdO w d ep ks bs vs)) (l1 : ks.length = vs.length) (l2 : bs.length = vs.length) :
    (d == sysModules) = false ∧ ∃ (us : List Value) (es : Array DictEntry), Vals vs us ∧ h.DictRaw d es ep ∧ es.size = vs.length ∧ ∀ i (hi : i < es.size), us[i]? = some es[i].val := by
  obtain ⟨⟨z, hd, nd, hdep, us, o, es, hv, h1, h2, h3, h4⟩, _, _⟩ := (show ObjOk P w H h d (.ext (NdP w d ep ks bs vs)) from ok d _ e)
  have l3 := hv.length
  have sz : es.size = vs.length := by
    have := congrArg List.length h4
    simp only [Array.length_toList, List.length_map, List.length_zip] at this
    omega
  refine ⟨hd, us, es, hv, ⟨o, h1, h2, h3⟩, sz, fun i hi => ?_⟩
  have e1 : es.toList[i]? = some es[i] := by simp [hi]
  rw [h4, List.getElem?_map] at e1
  have hi2 : i < us.length := by omega
  have e2 : (ks.zip (bs.zip us))[i]? = some (ks[i]'(by omega), bs[i]'(by omega), us[i]) := by
    rw [List.getElem?_eq_getElem (by simp; omega), List.getElem_zip, List.getElem_zip]
  rw [e2] at e1
  have e3 := congrArg (fun x : Option DictEntry => x.map (·.val)) e1
  simp only [Option.map_some] at e3
  rw [List.getElem?_eq_getElem hi2]; exact e3
theorem turn_valsN (it : Addr) (l1 : ks.length = vs.length) (l2 : bs.length = vs.length) : Turn P w K tg (ItvN w d ep ks bs vs) [it] it (fun i h => h.IsValIter it d i vs.length ep) where
  mem := by simp
  obj := fun i h st b hb => by
    have e : b = it := by simpa using hb
    subst e
    obtain ⟨oi, e, c, dd⟩ := st
    exact ⟨oi, e, fun v z => by rw [dd] at z; cases z⟩
  keep := fun i h h' st k => st.at fun oi e => k it (by simp) oi e
  item := by
    intro X hP hw hK hc i pins s σ H E I hf st hg
    subst hP hw hK
    obtain ⟨hd, hi⟩ := hg
    obtain ⟨f0, f1, f2, f3, f4, f5⟩ := hf it (by simp)
    obtain ⟨_, us, es, hv, raw, sz, ent⟩ := nd_raw I.hok hd l1 l2
    rw [← sz] at st
    refine wpAny_pyNext_values_item_raw st raw (by omega) fun h' st' sb => ?_
    have I1 : Inv X pins σ H { s with heap := h' } := I.turned (t' := s.toks) (fun b ob hb e => (sb.2 b hb).trans e) f0 f1 f3 f4 f5
    obtain ⟨u', h4, h5⟩ := hv.get (List.getElem?_eq_getElem hi)
    have := ent i (by omega)
    rw [h4] at this; cases this
    obtain ⟨oi, e, c, dd⟩ := id st'
    refine ⟨_, rfl, go_of (s := { s with heap := h' }) e c dd (by decide) ⟨vs[i], H, I1, h5, ⟨rfl, List.getElem?_eq_getElem hi⟩, ?_, fun b hb => (hf b hb).1⟩⟩
    rw [← sz]; exact st'
  done := by
    intro X hP hw hK hc i pins s σ H E I hf st hg
    subst hP hw hK
    obtain ⟨hd, hi⟩ := hg
    obtain ⟨f0, f1, f2, f3, f4, f5⟩ := hf it (by simp)
    obtain ⟨_, us, es, hv, raw, sz, ent⟩ := nd_raw I.hok hd l1 l2
    rw [← sz] at st
    exact wpAny_pyNext_values_end_raw (I.ok.hd hc) st raw (by omega) fun h' eb => ⟨rfl, I.turned (t' := s.toks) (fun b ob hb e => eb b ob hb e) f0 f1 f3 f4 f5⟩
  self := fun A i s Q E st h => wpAny_pyIter_valiter st h
end
def iValsN (w : World) (td : TE) : TI := fun σ H R => td σ H fun x H1 => ∃ d ep ks bs vs, x = .ref d ∧ H1 d = some (NdO w d ep ks bs vs) ∧ ks.length = vs.length ∧ bs.length = vs.length ∧ R (ItvN w d ep ks bs vs) H1
section
variable {X : Cx} {tg e : Expr} {td : TE} {apos cpos : Pos}
theorem pi_valuesN (he : PE X e td) (hbase : attributeBase e "values" X.env (eval e X.env) = eval e X.env := by rfl) (hline : (apos.endLine == cpos.line) = true := by rfl) : PI X tg (.Call (.Attribute e "values" apos) [] [] cpos) (iValsN X.w td) := by
  refine ⟨fun pins s σ H R I h => ?_⟩
  refine wpAny_Call_method (T := "dict") (id := "dict.values") hbase rfl hline PySem.F.plainAttrs_dict PySem.F.slot_dict_values PySem.F.type_dict_values (thn (he.run pins s σ H _ I h) fun u s1 ⟨x, H1, I1, rx, d, ep, ks, bs, vs, ex, hd, l1, l2, q⟩ => ?_)
  subst ex
  obtain rfl : u = Value.ref d := rx
  obtain ⟨hs, us, es, hv, raw, sz, ent⟩ := nd_raw I1.hok hd l1 l2
  obtain ⟨od, hod, hcd, hdd⟩ := id raw
  refine ⟨raw.typeIs, fun a ea => by cases ea; exact ⟨od, hod, hcd.2.1⟩, ?_⟩
  have I2 : Inv X pins σ H1 { s1 with heap := s1.heap.push { cls := .type "dict_values", data := .fields #[.ref d] } } := I1.kept (t' := s1.toks) fun b ob q => Heap.get?_push_of_some _ q
  have fin : wpAny (model X.prog X.w) X.A (pyIter (.ref s1.heap.objs.size)) (PIE X pins σ tg R) X.xe { s1 with heap := s1.heap.push { cls := .type "dict_values", data := .fields #[.ref d] } } := by
    refine wpAny_pyIter_values_raw (d := d) ⟨_, Heap.get?_push_size _ rfl, rfl, rfl⟩ (raw.at fun o e => Heap.get?_push_of_some _ e) (pi_one (tk := s1.toks) I2 _ (turn_valsN _ l1 l2) ⟨_, Heap.get?_push_size _ rfl, rfl, ?_⟩ q)
    rw [sz] <;> rfl
  show wpAny _ _ (callWith cpos (.builtin "dict.values") [.ref d] [] []) _ X.xe s1
  exact method_meetsIn PySem.F.slot_dict_values PySem.F.entry_dict_values rfl (PySem.evalArgs_none ⟨rfl, raw.typeIs, PySem.F.args_dict_values_1 _, _, meets_dict_values_raw d hs, ⟨es, ep, raw⟩, fin⟩)
end
def mValsN (m : ME) : MI := fun ρ cs => (m ρ cs).bind fun x cs1 => match frz 8 x cs1 with
  | some (.dN ks ts, cs2) => .ok ts cs2
  | _ => .no
theorem den_valsN {K : Fg} {E : XK} {te : TE} {m : ME} (d : DenE K E te m) : DenI K E (iValsN K.w te) (mValsN m) := fun F B H ads cs σ ρ Q w l h => by
  refine d F B H ads cs σ ρ _ w l (wpR_mono (wpR_bind h) (fun x cs1 h1 B1 H1 ads1 v s1 p1 w1 r1 => ?_) fun _ _ h => h)
  split at h1
  · rename_i ks ts cs2 e
    obtain ⟨B2, s2, w2, q2, _⟩ := frz_ok 8 _ _ _ _ _ _ _ _ _ w1 r1 e
    cases q2 with
    | dN a0 l0 q0 rs =>
      rename_i a ep bs vs
      refine ⟨a, ep, ks, bs, vs, rfl, w2.same _ _ a0, l0, by rw [q0.1]; exact l0, ?_⟩
      refine h1 B2 H1 ads1 _ (s1.trans s2) p1 w2 ?_
      have hl := rs.length
      rw [← hl]
      exact ⟨fun i Hq hi q => ⟨q _ _ a0, by omega⟩, fun Hq q => ⟨q _ _ a0, Nat.le_refl _⟩, fun i Hq y Hq' hi q yy => yt_at rs i Hq y Hq' (by omega) (by
        obtain ⟨rfl, hy⟩ := yy
        exact ⟨rfl, hy⟩)⟩
  · exact h1.elim
theorem xi_valsN {X : Cx} {E : XK} {tg e : Expr} {te : TE} {m : ME} {apos cpos : Pos} (h : XE X E e te m) (hbase : attributeBase e "values" X.env (eval e X.env) = eval e X.env := by rfl) (hline : (apos.endLine == cpos.line) = true := by rfl) :
    XI X E tg (.Call (.Attribute e "values" apos) [] [] cpos) (iValsN X.w te) (mValsN m) := ⟨pi_valuesN h.pe hbase hline, den_valsN h.den⟩

/-! ### ints of the module -/
theorem x_globI {X : Cx} {E : XK} {x : Str} {i : Int} {pos : Pos} (hg : Gl X x) (hm : ∃ t, X.mg x = some (.int i t)) (hd : (x == ("__debug__" : Str)) = false := by decide) : XE X E (.Name x pos) (tC (.int i)) (mC (.int i)) := by
  obtain ⟨t, hm⟩ := hm
  exact ⟨pe_glob hg hm ⟨t, rfl⟩ hd, den_c fun _ => .int i⟩
end G

/-! The tree layer, 18: loops that may return; sequences of either kind; more of dicts. -/
namespace G
open PySem L2 RZ PyProof.Rows

theorem for_ixP {mg : MG} {mb : MS} {ts : List T} (I : Nat → Loc → Cs → Prop) (P : Fl → Cs → Prop)
    (hs : ∀ i t ρ cs, ts[i]? = some t → I i ρ cs → (∃ ρ' cs', stepF mg mb t ρ cs = .ok (.nx ρ') cs' ∧ I (i + 1) ρ' cs') ∨ (∃ w cs', stepF mg mb t ρ cs = .ok (.rt w) cs' ∧ P (.rt w) cs') ∨ (∃ ρ' cs', stepF mg mb t ρ cs = .ok (.bk ρ') cs' ∧ P (.nx ρ') cs'))
    (hd : ∀ ρ cs, I ts.length ρ cs → P (.nx ρ) cs) {ρ : Loc} {cs : Cs} (h0 : I 0 ρ cs) : ∃ f cs', forGo mg mb ts ρ cs = .ok f cs' ∧ P f cs' := by
  induction ts generalizing I ρ cs with
  | nil => exact ⟨.nx ρ, cs, rfl, hd _ _ h0⟩
  | cons t ts ih =>
    rw [forGo_cons]
    rcases hs 0 t ρ cs rfl h0 with ⟨ρ1, cs1, e, h1⟩ | ⟨w, cs1, e, h1⟩ | ⟨ρ1, cs1, e, h1⟩
    · rw [e]
      exact ih (fun i => I (i + 1)) (fun i t ρ cs hi => hs (i + 1) t ρ cs hi) (fun ρ cs h => hd ρ cs h) h1
    · rw [e]
      exact ⟨.rt w, cs1, rfl, h1⟩
    · rw [e]
      exact ⟨.nx ρ1, cs1, rfl, h1⟩
theorem for_rngP {mg : MG} {mb : MS} {n : Nat} (I : Nat → Loc → Cs → Prop) (P : Fl → Cs → Prop)
    (hs : ∀ i ρ cs, i < n → I i ρ cs → (∃ ρ' cs', stepF mg mb (.int (i : Nat)) ρ cs = .ok (.nx ρ') cs' ∧ I (i + 1) ρ' cs') ∨ (∃ w cs', stepF mg mb (.int (i : Nat)) ρ cs = .ok (.rt w) cs' ∧ P (.rt w) cs') ∨ (∃ ρ' cs', stepF mg mb (.int (i : Nat)) ρ cs = .ok (.bk ρ') cs' ∧ P (.nx ρ') cs'))
    (hd : ∀ ρ cs, I n ρ cs → P (.nx ρ) cs) {ρ : Loc} {cs : Cs} (h0 : I 0 ρ cs) : ∃ f cs', forGo mg mb (rangeT 0 n) ρ cs = .ok f cs' ∧ P f cs' :=
  for_ixP I P (fun i t ρ cs h1 h2 => by
    obtain ⟨hi, rfl⟩ := rangeT_get h1
    rw [Int.zero_add]
    exact hs i ρ cs hi h2) (by rw [rangeT_len]; exact hd) h0

/-- a list or a tuple, read -/
structure SqW (w : T) (ts : List T) : Prop where
  ix : ∀ i cs, fIx (W.cl w) (W.cl (T.int i)) cs = match atI ts i with | some t => R.ok (W.cl t) cs | none => R.no
  len : ∀ cs, fLen [W.cl w] cs = R.ok (W.cl (T.int ts.length)) cs
  items : ∀ cs, itemsT (W.cl w) cs = R.ok ts cs
theorem sq_tup (ts : List T) : SqW (.tup ts) ts := ⟨fun _ _ => rfl, fun cs => by simp only [ef], fun _ => rfl⟩
theorem sq_lst (ts : List T) : SqW (.lst ts) ts := ⟨fun i cs => by simp only [ef]; try rfl, fun cs => by simp only [ef], fun _ => rfl⟩

/-- lists at their places, frozen one behind the other -/
theorem frzs_pts (m : Nat) : ∀ (es : List (Nat × List T)) (cs : Cs), (es.map (·.1)).Nodup → (∀ e ∈ es, cs[e.1]? = some (.lst (e.2.map .cl))) →
    ∃ cs', frzs (frz (m + 1)) (es.map fun e => W.pt e.1) cs = some (es.map (fun e => T.lst e.2), cs') ∧ ∀ j, j ∉ es.map (·.1) → cs'[j]? = cs[j]?
  | [], cs, _, _ => ⟨cs, rfl, fun _ _ => rfl⟩
  | e :: es, cs, nd, h => by
    rw [List.map_cons, List.nodup_cons] at nd
    have h0 := h e (List.mem_cons_self)
    have f0 := frz_lst (n := m) h0
    obtain ⟨cs', i1, i2⟩ := frzs_pts m es (cs.set e.1 (.fz (.lst e.2))) nd.2 fun x hx => by
      rw [List.getElem?_set_ne (fun q => nd.1 (by rw [q]; exact List.mem_map_of_mem hx))]
      exact h x (List.mem_cons_of_mem _ hx)
    refine ⟨cs', by simp only [List.map_cons, frzs, f0, i1], fun j hj => ?_⟩
    rw [List.map_cons, List.mem_cons, not_or] at hj
    rw [i2 j hj.2, List.getElem?_set_ne (Ne.symm hj.1)]
theorem look_mapG {κ κ' α ε : Type} [DecidableEq κ] [DecidableEq κ'] (enc : κ → κ') (inj : ∀ a b, enc a = enc b → a = b) (kf : ε → κ) (f : ε → α) (L : κ) : ∀ D : List ε, look (D.map fun e => enc (kf e)) (D.map f) (enc L) = (D.find? fun e => decide (kf e = L)).map f
  | [] => rfl
  | e :: D => by
    rw [List.map_cons, List.map_cons, look_cons, look_mapG enc inj kf f L D]
    by_cases h : kf e = L
    · subst h; simp [List.find?_cons]
    · have h2 : ¬ enc (kf e) = enc L := fun q => h (inj _ _ q)
      simp [List.find?_cons, h, h2]
/-- what is reckoned without thinking, of dicts -/
theorem en :
    (∀ f a m ρ cs, mNM f a m ρ cs = (a ρ cs).bind fun x cs1 => if (ndW cs1 x).isSome = true then (m ρ cs1).bind fun xs cs2 => f x xs cs2 else R.no) ∧
    (∀ ρ cs, mDNewN ρ cs = R.ok (W.pt cs.length) (cs ++ [Cell.dN [] []])) ∧
    (∀ cs ks ts, ndW cs (W.cl (T.dN ks ts)) = some (ks, ts.map W.cl)) ∧
    (∀ cs i, ndW cs (W.pt i) = match cs[i]? with | some (Cell.dN ks ws) => some (ks, ws) | some (Cell.fz (T.dN ks ts)) => some (ks, ts.map W.cl) | _ => none) ∧
    (∀ neg y x cs, fInN neg y x cs = match ndW cs x, keyWN y with | some (ks, ws), some k => (if k.depth ≤ 8 then R.ok (W.cl (T.bl (if neg = true then !(look ks ws k).isSome else (look ks ws k).isSome))) cs else R.no) | _, _ => R.no) ∧
    (∀ x y cs, fGetN x [y] cs = match ndW cs x, keyWN y with | some (ks, ws), some k => (if k.depth ≤ 8 then R.ok ((look ks ws k).getD (W.cl T.non)) cs else R.no) | _, _ => R.no) ∧
    (∀ x y cs, fDGetN x y cs = match ndW cs x, keyWN y with | some (ks, ws), some k => (if k.depth ≤ 8 then (match look ks ws k with | some w => R.ok w cs | none => R.no) else R.no) | _, _ => R.no) ∧
    (∀ m ρ cs, mValsN m ρ cs = (m ρ cs).bind fun x cs1 => match frz 8 x cs1 with | some (T.dN ks ts, cs2) => R.ok ts cs2 | _ => R.no) ∧
    (∀ a b w ρ cs, mgSubN a b w ρ cs = (a ρ cs).bind fun o cs1 => (b ρ cs1).bind fun i cs2 => fSetN o i w cs2 (R.ok ρ cs2)) ∧
    (∀ ts, keyWN (W.cl (T.tup ts)) = (keyNs ts).map NestedKey.tup) ∧
    (∀ (α : Type) (a : α), (some a).isSome = true) ∧ (∀ (α : Type), (none : Option α).isSome = false) := by
  refine ⟨?_, ?_, ?_, ?_, ?_, ?_, ?_, ?_, ?_, ?_, ?_, ?_⟩ <;> intros <;> first | rfl | skip
theorem setdN_at {cs : Cs} {d : Nat} {ks : List NestedKey} {ws : List W} {y x : W} {k : NestedKey} (h : cs[d]? = some (.dN ks ws)) (hk : keyWN y = some k) (hl : ks.length < LIM) (hd : k.depth ≤ 8) :
    fSetdN (.pt d) [y, x] cs = match look ks ws k with | some w => .ok w cs | none => .ok x (cs.set d (.dN (ks ++ [k]) (ws ++ [x]))) := by
  simp only [fSetdN, h, hk, hl, hd, and_self, if_true]; try rfl
theorem setN_at {cs : Cs} {d : Nat} {ks : List NestedKey} {ws : List W} {y v : W} {k : NestedKey} {ρ : Loc} {c : Cs} (h : cs[d]? = some (.dN ks ws)) (hk : keyWN y = some k) (hl : ks.length < LIM) (hd : k.depth ≤ 8) :
    fSetN (.pt d) y v cs (.ok ρ c) = if k ∈ ks then .ok ρ (cs.set d (.dN ks (setAtK ks ws k v))) else .ok ρ (cs.set d (.dN (ks ++ [k]) (ws ++ [v]))) := by
  simp only [fSetN, h, hk, hl, hd, and_self, if_true]; try rfl
end G

namespace My
open PySem L2 G
def topS (i : Nat) : Stmt := PySem.Challenge.pw_nobadday_k75_runs_judged.main.body.getD i (.Pass ⟨0, 0, 0, 0⟩)
theorem bt_all : bootBuiltins "all" = some (.builtin "all") := by decide +kernel
theorem bt_enumerate : bootBuiltins "enumerate" = some (.type "enumerate") := by decide +kernel
theorem bt_int : bootBuiltins "int" = some (.type "int") := by decide +kernel
theorem bt_isinstance : bootBuiltins "isinstance" = some (.builtin "isinstance") := by decide +kernel
theorem bt_len : bootBuiltins "len" = some (.builtin "len") := by decide +kernel
theorem bt_list : bootBuiltins "list" = some (.type "list") := by decide +kernel
theorem bt_max : bootBuiltins "max" = some (.builtin "max") := by decide +kernel
theorem bt_min : bootBuiltins "min" = some (.builtin "min") := by decide +kernel
theorem bt_range : bootBuiltins "range" = some (.type "range") := by decide +kernel
theorem bt_sorted : bootBuiltins "sorted" = some (.builtin "sorted") := by decide +kernel
theorem bt_tuple : bootBuiltins "tuple" = some (.type "tuple") := by decide +kernel
theorem bt_zip : bootBuiltins "zip" = some (.type "zip") := by decide +kernel
structure Top (mg : Str → Option Value) : Prop where
  b_all : mg "all" = none
  b_enumerate : mg "enumerate" = none
  b_int : mg "int" = none
  b_isinstance : mg "isinstance" = none
  b_len : mg "len" = none
  b_list : mg "list" = none
  b_max : mg "max" = none
  b_min : mg "min" = none
  b_range : mg "range" = none
  b_sorted : mg "sorted" = none
  b_tuple : mg "tuple" = none
  b_zip : mg "zip" = none
  c_MOST_WAIT : ∃ t, mg "MOST_WAIT" = some (.int 60 t)
section
variable {P : Program} {w : World} {K : PySem.W.Frag} {mg : Str → Option Value} {base : Heap}
def E1_frozen (gr : List T → Option T) : ME := (mCallD gr (mCons (mVar 1) mNil))
def C1_frozen (gr : List T → Option T) : ME := (mLc false [1] (mSeq (mVar 0)) (mgName 1) mYes (E1_frozen gr))
abbrev st_frozen : Stmt := topS 1
def N_frozen : List Str := ["value", "item"]
theorem sc_frozen : FnScope N_frozen ["value"] (defScope st_frozen) := ⟨rfl, rfl, rfl, by decide +kernel, rfl, by decide +kernel, by decide +kernel⟩
def m_frozen (gr : List T → Option T) : MS := (sSeq (sIf (mTru (mIsi2 "list" "tuple" (mVar 0)))
(sRet (mCall fTuple (mCons (C1_frozen gr) mNil)))
sPass)
(sRet (mVar 0)))
def h_frozen : Nat → List T → Option T
  | 0 => fun _ => none
  | n + 1 => runT 2 (m_frozen (h_frozen n))
def g_frozen : List T → Option T := h_frozen 8
theorem okr_frozen {f : Addr} {fd : FuncData} (F : Fun K "frozen" "frozen" st_frozen f fd) (bF : Binds K fd ["value"] []) (hm : mg "frozen" = some (.ref f)) (Tp : Top mg)  : ∀ n, FnOk P w K mg base CX0 (0 + n) f fd ["value"] (spT ⟨K, w⟩ 1 (h_frozen n))
  | 0 => fn_none
  | j + 1 => by
    have D_frozen : DefOk P w K mg base "frozen" 1 (0 + j) (h_frozen j) := ⟨f, fd, _, hm, F.kp, bF, okr_frozen F bF hm Tp  j⟩
    exact fn_ok (N := N_frozen) (k := 0 + j) (mb := m_frozen (h_frozen j)) F sc_frozen fun cdv A outer s H E hr => by
      have hu := hr.units
      have nd := sc_frozen.nd
      exact ⟨_, (ss_cons (s_if (xt_tru (x_isi2 rfl Tp.b_isinstance (xv 0) rfl Tp.b_list bt_list rfl Tp.b_tuple bt_tuple))
        (ss_one (s_ret (x_callTy c_tuple rfl Tp.b_tuple bt_tuple (xa_cons (y_lc (own := [("item", 1)]) false rfl nd (xi_seq (xv 0)) (blkOk_by (N := N_frozen) (sc := defScope st_frozen) (by decide +kernel)) (fun _ _ _ _ _ => (xg_name (i := 1) (by exact nd))) (fr_name (vs := [1]) (i := 1)) (fun _ _ _ _ _ => ⟨_, xp_nil⟩) (fun _ _ _ _ _ => ⟨_, (x_call D_frozen (by exact hr.mono (by omega)) (by rfl) (xa_cons (xv 1) xa_nil) (len_cons len_nil))⟩)) xa_nil))))
        ss_nil)
        (ss_one (s_ret (xv 0))))⟩
theorem ok_frozen {f : Addr} {fd : FuncData} (F : Fun K "frozen" "frozen" st_frozen f fd) (bF : Binds K fd ["value"] []) (hm : mg "frozen" = some (.ref f)) (Tp : Top mg)  : FnOk P w K mg base CX0 9 f fd ["value"] (spT ⟨K, w⟩ 1 g_frozen) := (okr_frozen F bF hm Tp  8).mono (by decide)
def E1_route_lanes : ME := (mTup (mCons (mOp fIx (mVar 0) (mVar 1)) (mCons (mOp fIx (mVar 0) (mOp (fAdd false) (mVar 1) (mC (.int 1)))) mNil)))
def C1_route_lanes : ME := (mLc false [1] (mRng1 (mCons (mOp fSub (mCall fLen (mCons (mVar 0) mNil)) (mC (.int 1))) mNil)) (mgName 1) mYes E1_route_lanes)
abbrev st_route_lanes : Stmt := topS 3
def N_route_lanes : List Str := ["route", "k"]
theorem sc_route_lanes : FnScope N_route_lanes ["route"] (defScope st_route_lanes) := ⟨rfl, rfl, rfl, by decide +kernel, rfl, by decide +kernel, by decide +kernel⟩
def m_route_lanes : MS := (sRet (mCall fTuple (mCons C1_route_lanes mNil)))
def g_route_lanes : List T → Option T := runT 2 m_route_lanes
theorem ok_route_lanes {f : Addr} {fd : FuncData} (F : Fun K "route_lanes" "route_lanes" st_route_lanes f fd) (Tp : Top mg)  : FnOk P w K mg base CX0 1 f fd ["route"] (spT ⟨K, w⟩ 1 g_route_lanes) :=
  fn_ok (N := N_route_lanes) (k := 0) (mb := m_route_lanes) F sc_route_lanes fun cdv A outer s H E hr => by
    have hu := hr.units
    have nd := sc_route_lanes.nd
    exact ⟨_, (ss_one (s_ret (x_callTy c_tuple rfl Tp.b_tuple bt_tuple (xa_cons (y_lc (own := [("k", 1)]) false rfl nd (xi_rng1 rfl Tp.b_range (xa_cons (x_bin o_sub (x_callB c_len rfl Tp.b_len bt_len (xa_cons (xv 0) xa_nil)) x_int) xa_nil)) (blkOk_by (N := N_route_lanes) (sc := defScope st_route_lanes) (by decide +kernel)) (fun _ _ _ _ _ => (xg_name (i := 1) (by exact nd))) (fr_name (vs := [1]) (i := 1)) (fun _ _ _ _ _ => ⟨_, xp_nil⟩) (fun _ _ _ _ _ => ⟨_, (x_tup (xa_cons (x_ix (xv 0) (xv 1)) (xa_cons (x_ix (xv 0) (x_bin (o_add false) (xv 1) x_int)) xa_nil)))⟩)) xa_nil))))⟩
def L2_carriers : MS := (sExp (mBM "list" fAppend (mNM fSetdN (mVar 2) (mCons (mTup (mCons (mVar 6) (mCons (mVar 7) mNil))) (mCons (mLst true mNil) mNil))) (mCons (mVar 3) mNil)))
def S2_carriers : MS := (sFor (mZip (mCons (mCallD g_route_lanes (mCons (mVar 5) mNil)) (mCons (mOp fIx (mVar 1) (mVar 3)) mNil))) (mgTup 2 (mgCons (mgName 6) (mgCons (mgName 7) mgNil)))
L2_carriers)
def L1_carriers : MS := S2_carriers
def S1_carriers : MS := (sFor (mEnumerate (mCons (mVar 0) mNil)) (mgTup 2 (mgCons (mgName 3) (mgCons (mgTup 2 (mgCons (mgName 4) (mgCons (mgName 5) mgNil))) mgNil)))
L1_carriers)
abbrev st_carriers : Stmt := topS 6
def N_carriers : List Str := ["crowd", "carried", "found", "k", "start", "route", "lane", "beat"]
theorem sc_carriers : FnScope N_carriers ["crowd", "carried"] (defScope st_carriers) := ⟨rfl, rfl, rfl, by decide +kernel, rfl, by decide +kernel, by decide +kernel⟩
def m_carriers : MS := (sSeq (sAsg mDNewN (mgName 2))
(sSeq S1_carriers
(sRet (mVar 2))))
def g_carriers : List T → Option T := runT 8 m_carriers
theorem ok_carriers {f : Addr} {fd : FuncData} (F : Fun K "carriers" "carriers" st_carriers f fd) (Tp : Top mg) (D_route_lanes : DefOk P w K mg base "route_lanes" 1 1 g_route_lanes) : FnOk P w K mg base CX0 2 f fd ["crowd", "carried"] (spT ⟨K, w⟩ 2 g_carriers) :=
  fn_ok (N := N_carriers) (k := 1) (mb := m_carriers) F sc_carriers fun cdv A outer s H E hr => by
    have hu := hr.units
    have nd := sc_carriers.nd
    exact ⟨_, (ss_cons (s_set (i := 2) nd x_dnewN)
      (ss_cons (s_for PassesOwn.never rfl (xi_enumerate rfl Tp.b_enumerate (xa_cons (xv 0) xa_nil)) (xg_tup (n := 2) rfl (xgs_cons (xg_name (i := 3) nd) (xgs_cons (xg_tup (n := 2) rfl (xgs_cons (xg_name (i := 4) nd) (xgs_cons (xg_name (i := 5) nd) xgs_nil))) xgs_nil)))
      (ss_one (s_for PassesOwn.never rfl (xi_zip rfl Tp.b_zip (xa_cons (x_call D_route_lanes (by exact hr.mono (by omega)) (by rfl) (xa_cons (xv 5) xa_nil) (len_cons len_nil)) (xa_cons (x_ix (xv 1) (xv 3)) xa_nil))) (xg_tup (n := 2) rfl (xgs_cons (xg_name (i := 6) nd) (xgs_cons (xg_name (i := 7) nd) xgs_nil)))
      (ss_one (s_expr (x_bm m_append (x_nm (m_setdN hu) (xv 2) (xa_cons (x_tup (xa_cons (xv 6) (xa_cons (xv 7) xa_nil))) (xa_cons (x_lst true xa_nil) xa_nil))) (xa_cons (xv 3) xa_nil)))))))
      (ss_one (s_ret (xv 2)))))⟩
def L2_are_beats : MS := (sSeq (sIf (mTst (mOp fLt (mVar 6) (mVar 5)))
(sRet (mC (.bl false)))
sPass)
(sAsg (mOp (fAdd false) (mVar 6) (mC (.int 1))) (mgName 5)))
def S2_are_beats : MS := (sFor (mSeq (mVar 4)) (mgName 6)
L2_are_beats)
def L1_are_beats : MS := (sSeq (sIf (mTst (mOp fNe (mCall fLen (mCons (mVar 4) mNil)) (mOp fSub (mCall fLen (mCons (mVar 3) mNil)) (mC (.int 1)))))
(sRet (mC (.bl false)))
sPass)
(sSeq (sAsg (mVar 2) (mgName 5))
S2_are_beats))
def S1_are_beats : MS := (sFor (mZip (mCons (mVar 0) (mCons (mVar 1) mNil))) (mgTup 2 (mgCons (mgTup 2 (mgCons (mgName 2) (mgCons (mgName 3) mgNil))) (mgCons (mgName 4) mgNil)))
L1_are_beats)
abbrev st_are_beats : Stmt := topS 7
def N_are_beats : List Str := ["crowd", "carried", "start", "route", "beats", "least", "beat"]
theorem sc_are_beats : FnScope N_are_beats ["crowd", "carried"] (defScope st_are_beats) := ⟨rfl, rfl, rfl, by decide +kernel, rfl, by decide +kernel, by decide +kernel⟩
def m_are_beats : MS := (sSeq (sIf (mTst (mOp fNe (mCall fLen (mCons (mVar 1) mNil)) (mCall fLen (mCons (mVar 0) mNil))))
(sRet (mC (.bl false)))
sPass)
(sSeq S1_are_beats
(sRet (mC (.bl true)))))
def g_are_beats : List T → Option T := runT 7 m_are_beats
theorem ok_are_beats {f : Addr} {fd : FuncData} (F : Fun K "are_beats" "are_beats" st_are_beats f fd) (Tp : Top mg)  : FnOk P w K mg base CX0 1 f fd ["crowd", "carried"] (spT ⟨K, w⟩ 2 g_are_beats) :=
  fn_ok (N := N_are_beats) (k := 0) (mb := m_are_beats) F sc_are_beats fun cdv A outer s H E hr => by
    have hu := hr.units
    have nd := sc_are_beats.nd
    exact ⟨_, (ss_cons (s_if (xt_cmp (o_ne hu) (x_callB c_len rfl Tp.b_len bt_len (xa_cons (xv 1) xa_nil)) (x_callB c_len rfl Tp.b_len bt_len (xa_cons (xv 0) xa_nil)))
      (ss_one (s_ret x_bl))
      ss_nil)
      (ss_cons (s_for PassesOwn.never rfl (xi_zip rfl Tp.b_zip (xa_cons (xv 0) (xa_cons (xv 1) xa_nil))) (xg_tup (n := 2) rfl (xgs_cons (xg_tup (n := 2) rfl (xgs_cons (xg_name (i := 2) nd) (xgs_cons (xg_name (i := 3) nd) xgs_nil))) (xgs_cons (xg_name (i := 4) nd) xgs_nil)))
      (ss_cons (s_if (xt_cmp (o_ne hu) (x_callB c_len rfl Tp.b_len bt_len (xa_cons (xv 4) xa_nil)) (x_bin o_sub (x_callB c_len rfl Tp.b_len bt_len (xa_cons (xv 3) xa_nil)) x_int))
      (ss_one (s_ret x_bl))
      ss_nil)
      (ss_cons (s_set (i := 5) nd (xv 2))
      (ss_one (s_for PassesOwn.never rfl (xi_seq (xv 4)) (xg_name (i := 6) nd)
      (ss_cons (s_if (xt_cmp o_lt (xv 6) (xv 5))
      (ss_one (s_ret x_bl))
      ss_nil)
      (ss_one (s_set (i := 5) nd (x_bin (o_add false) (xv 6) x_int)))))))))
      (ss_one (s_ret x_bl))))⟩
def E1_never_rests : ME := (mOp (fInN false) (mTup (mCons (mVar 6) (mCons (mVar 8) mNil))) (mVar 2))
def C1_never_rests : ME := (mLc false [8] (mRng2 (mCons (mVar 5) (mCons (mVar 7) mNil))) (mgName 8) mYes E1_never_rests)
def L1_never_rests : MS := (sSeq (sIf (mTst (mOp fGt (mOp fSub (mVar 7) (mVar 5)) (mC (.int 60))))
(sRet (mC (.bl false)))
sPass)
(sSeq (sIf (mNot (mTru (mCall fAll (mCons C1_never_rests mNil))))
(sRet (mC (.bl false)))
sPass)
(sAsg (mOp (fAdd false) (mVar 7) (mC (.int 1))) (mgName 5))))
def S1_never_rests : MS := (sFor (mZip (mCons (mCallD g_route_lanes (mCons (mVar 4) mNil)) (mCons (mVar 1) mNil))) (mgTup 2 (mgCons (mgName 6) (mgCons (mgName 7) mgNil)))
L1_never_rests)
abbrev st_never_rests : Stmt := topS 8
def N_never_rests : List Str := ["letter", "beats", "found", "start", "route", "came", "lane", "beat", "other"]
theorem sc_never_rests : FnScope N_never_rests ["letter", "beats", "found"] (defScope st_never_rests) := ⟨rfl, rfl, rfl, by decide +kernel, rfl, by decide +kernel, by decide +kernel⟩
def m_never_rests : MS := (sSeq (sAsg (mVar 0) (mgTup 2 (mgCons (mgName 3) (mgCons (mgName 4) mgNil))))
(sSeq (sAsg (mVar 3) (mgName 5))
(sSeq S1_never_rests
(sRet (mC (.bl true))))))
def g_never_rests : List T → Option T := runT 9 m_never_rests
theorem ok_never_rests {f : Addr} {fd : FuncData} (F : Fun K "never_rests" "never_rests" st_never_rests f fd) (Tp : Top mg) (D_route_lanes : DefOk P w K mg base "route_lanes" 1 1 g_route_lanes) : FnOk P w K mg base CX0 2 f fd ["letter", "beats", "found"] (spT ⟨K, w⟩ 3 g_never_rests) :=
  fn_ok (N := N_never_rests) (k := 1) (mb := m_never_rests) F sc_never_rests fun cdv A outer s H E hr => by
    have hu := hr.units
    have nd := sc_never_rests.nd
    exact ⟨_, (ss_cons (s_asg (xv 0) (xg_tup (n := 2) rfl (xgs_cons (xg_name (i := 3) nd) (xgs_cons (xg_name (i := 4) nd) xgs_nil))))
      (ss_cons (s_set (i := 5) nd (xv 3))
      (ss_cons (s_for PassesOwn.never rfl (xi_zip rfl Tp.b_zip (xa_cons (x_call D_route_lanes (by exact hr.mono (by omega)) (by rfl) (xa_cons (xv 4) xa_nil) (len_cons len_nil)) (xa_cons (xv 1) xa_nil))) (xg_tup (n := 2) rfl (xgs_cons (xg_name (i := 6) nd) (xgs_cons (xg_name (i := 7) nd) xgs_nil)))
      (ss_cons (s_if (xt_cmp o_gt (x_bin o_sub (xv 7) (xv 5)) (x_globI rfl Tp.c_MOST_WAIT))
      (ss_one (s_ret x_bl))
      ss_nil)
      (ss_cons (s_if (xt_not (xt_tru (x_callB (c_all rfl) rfl Tp.b_all bt_all (xa_cons (y_lc (own := [("other", 8)]) false rfl nd (xi_rng2 rfl Tp.b_range (xa_cons (xv 5) (xa_cons (xv 7) xa_nil))) (blkOk_by (N := N_never_rests) (sc := defScope st_never_rests) (by decide +kernel)) (fun _ _ _ _ _ => (xg_name (i := 8) (by exact nd))) (fr_name (vs := [8]) (i := 8)) (fun _ _ _ _ _ => ⟨_, xp_nil⟩) (fun _ _ _ _ _ => ⟨_, (x_cmp (o_inN (by exact hu)) (x_tup (xa_cons (xv 6) (xa_cons (xv 8) xa_nil))) (xv 2))⟩)) xa_nil))))
      (ss_one (s_ret x_bl))
      ss_nil)
      (ss_one (s_set (i := 5) nd (x_bin (o_add false) (xv 7) x_int))))))
      (ss_one (s_ret x_bl)))))⟩
def E1_is_run : ME := (mOp fEq (mCall fLen (mCons (mVar 3) mNil)) (mC (.int 1)))
def C1_is_run : ME := (mLc false [3] (mValsN (mVar 2)) (mgName 3) mYes E1_is_run)
def E2_is_run : ME := (mCallD g_never_rests (mCons (mVar 4) (mCons (mVar 5) (mCons (mVar 2) mNil))))
def C2_is_run : ME := (mLc false [4, 5] (mZip (mCons (mVar 0) (mCons (mVar 1) mNil))) (mgTup 2 (mgCons (mgName 4) (mgCons (mgName 5) mgNil))) mYes E2_is_run)
abbrev st_is_run : Stmt := topS 9
def N_is_run : List Str := ["crowd", "carried", "found", "letters", "letter", "beats"]
theorem sc_is_run : FnScope N_is_run ["crowd", "carried"] (defScope st_is_run) := ⟨rfl, rfl, rfl, by decide +kernel, rfl, by decide +kernel, by decide +kernel⟩
def m_is_run : MS := (sSeq (sAsg (mCallD g_frozen (mCons (mVar 0) mNil)) (mgName 0))
(sSeq (sAsg (mCallD g_frozen (mCons (mVar 1) mNil)) (mgName 1))
(sSeq (sIf (mNot (mTru (mCallD g_are_beats (mCons (mVar 0) (mCons (mVar 1) mNil)))))
(sRet (mC (.bl false)))
sPass)
(sSeq (sAsg (mCallD g_carriers (mCons (mVar 0) (mCons (mVar 1) mNil))) (mgName 2))
(sSeq (sIf (mNot (mTru (mCall fAll (mCons C1_is_run mNil))))
(sRet (mC (.bl false)))
sPass)
(sRet (mCall fAll (mCons C2_is_run mNil))))))))
def g_is_run : List T → Option T := runT 6 m_is_run
theorem ok_is_run {f : Addr} {fd : FuncData} (F : Fun K "is_run" "is_run" st_is_run f fd) (Tp : Top mg) (D_frozen : DefOk P w K mg base "frozen" 1 9 g_frozen) (D_are_beats : DefOk P w K mg base "are_beats" 2 1 g_are_beats) (D_carriers : DefOk P w K mg base "carriers" 2 2 g_carriers) (D_never_rests : DefOk P w K mg base "never_rests" 3 2 g_never_rests) : FnOk P w K mg base CX0 10 f fd ["crowd", "carried"] (spT ⟨K, w⟩ 2 g_is_run) :=
  fn_ok (N := N_is_run) (k := 9) (mb := m_is_run) F sc_is_run fun cdv A outer s H E hr => by
    have hu := hr.units
    have nd := sc_is_run.nd
    exact ⟨_, (ss_cons (s_set (i := 0) nd (x_call D_frozen (by exact hr.mono (by omega)) (by rfl) (xa_cons (xv 0) xa_nil) (len_cons len_nil)))
      (ss_cons (s_set (i := 1) nd (x_call D_frozen (by exact hr.mono (by omega)) (by rfl) (xa_cons (xv 1) xa_nil) (len_cons len_nil)))
      (ss_cons (s_if (xt_not (xt_tru (x_call D_are_beats (by exact hr.mono (by omega)) (by rfl) (xa_cons (xv 0) (xa_cons (xv 1) xa_nil)) (len_cons (len_cons len_nil)))))
      (ss_one (s_ret x_bl))
      ss_nil)
      (ss_cons (s_set (i := 2) nd (x_call D_carriers (by exact hr.mono (by omega)) (by rfl) (xa_cons (xv 0) (xa_cons (xv 1) xa_nil)) (len_cons (len_cons len_nil))))
      (ss_cons (s_if (xt_not (xt_tru (x_callB (c_all rfl) rfl Tp.b_all bt_all (xa_cons (y_lc (own := [("letters", 3)]) false rfl nd (xi_valsN (xv 2)) (blkOk_by (N := N_is_run) (sc := defScope st_is_run) (by decide +kernel)) (fun _ _ _ _ _ => (xg_name (i := 3) (by exact nd))) (fr_name (vs := [3]) (i := 3)) (fun _ _ _ _ _ => ⟨_, xp_nil⟩) (fun _ _ _ _ _ => ⟨_, (x_cmp (o_eq (by exact hu)) (x_callB c_len (by rfl) Tp.b_len bt_len (xa_cons (xv 3) xa_nil)) x_int)⟩)) xa_nil))))
      (ss_one (s_ret x_bl))
      ss_nil)
      (ss_one (s_ret (x_callB (c_all rfl) rfl Tp.b_all bt_all (xa_cons (y_lc (own := [("letter", 4), ("beats", 5)]) false rfl nd (xi_zip rfl Tp.b_zip (xa_cons (xv 0) (xa_cons (xv 1) xa_nil))) (blkOk_by (N := N_is_run) (sc := defScope st_is_run) (by decide +kernel)) (fun _ _ _ _ _ => (yg_tup (K := K) rfl (n := 2) (by rfl) (xgs_cons (xg_name (i := 4) (by exact nd)) (xgs_cons (xg_name (i := 5) (by exact nd)) xgs_nil)))) (fr_tup (frs_cons (fr_name (vs := [4, 5]) (i := 4)) (frs_cons (fr_name (vs := [4, 5]) (i := 5)) frs_nil mono_name mono_nil) mono_name (mono_cons mono_name mono_nil))) (fun _ _ _ _ _ => ⟨_, xp_nil⟩) (fun _ _ _ _ _ => ⟨_, (x_call D_never_rests (by exact hr.mono (by omega)) (by rfl) (xa_cons (xv 4) (xa_cons (xv 5) (xa_cons (xv 2) xa_nil))) (len_cons (len_cons (len_cons len_nil))))⟩)) xa_nil)))))))))⟩
def L1_law_cell : MS := (sAsg (mOp fMod (mCall fInt (mCons (mOp (fAdd false) (mOp (fMul false) (mVar 2) (mC (.int 31))) (mOp fMod (mCall fInt (mCons (mVar 3) mNil)) (mC (.int 1000003)))) mNil)) (mC (.int 1000003))) (mgName 2))
def S1_law_cell : MS := (sFor (mSeq (mVar 0)) (mgName 3)
L1_law_cell)
abbrev st_law_cell : Stmt := topS 11
def N_law_cell : List Str := ["script", "k", "seed", "cell"]
theorem sc_law_cell : FnScope N_law_cell ["script", "k"] (defScope st_law_cell) := ⟨rfl, rfl, rfl, by decide +kernel, rfl, by decide +kernel, by decide +kernel⟩
def m_law_cell : MS := (sSeq (sIf (mTst (mOp fLt (mVar 1) (mCall fLen (mCons (mVar 0) mNil))))
(sRet (mOp fIx (mVar 0) (mVar 1)))
sPass)
(sSeq (sAsg (mC (.int 17)) (mgName 2))
(sSeq S1_law_cell
(sRet (mOp fMod (mCall fInt (mCons (mOp (fMul false) (mOp (fMul false) (mOp (fAdd false) (mVar 2) (mC (.int 7))) (mOp (fAdd false) (mVar 1) (mC (.int 3)))) (mC (.int 69621))) mNil)) (mC (.int 2147483647)))))))
def g_law_cell : List T → Option T := runT 4 m_law_cell
theorem ok_law_cell {f : Addr} {fd : FuncData} (F : Fun K "_law_cell" "_law_cell" st_law_cell f fd) (Tp : Top mg)  : FnOk P w K mg base CX0 1 f fd ["script", "k"] (spT ⟨K, w⟩ 2 g_law_cell) :=
  fn_ok (N := N_law_cell) (k := 0) (mb := m_law_cell) F sc_law_cell fun cdv A outer s H E hr => by
    have hu := hr.units
    have nd := sc_law_cell.nd
    exact ⟨_, (ss_cons (s_if (xt_cmp o_lt (xv 1) (x_callB c_len rfl Tp.b_len bt_len (xa_cons (xv 0) xa_nil)))
      (ss_one (s_ret (x_ix (xv 0) (xv 1))))
      ss_nil)
      (ss_cons (s_set (i := 2) nd x_int)
      (ss_cons (s_for PassesOwn.never rfl (xi_seq (xv 0)) (xg_name (i := 3) nd)
      (ss_one (s_set (i := 2) nd (x_bin o_mod (x_callTy c_int rfl Tp.b_int bt_int (xa_cons (x_bin (o_add false) (x_bin (o_mul false) (xv 2) x_int) (x_bin o_mod (x_callTy c_int rfl Tp.b_int bt_int (xa_cons (xv 3) xa_nil)) x_int)) xa_nil)) x_int))))
      (ss_one (s_ret (x_bin o_mod (x_callTy c_int rfl Tp.b_int bt_int (xa_cons (x_bin (o_mul false) (x_bin (o_mul false) (x_bin (o_add false) (xv 2) x_int) (x_bin (o_add false) (xv 1) x_int)) x_int) xa_nil)) x_int))))))⟩
def L1_law_digits : MS := (sSeq (sExp (mBM "list" fAppend (mVar 2) (mCons (mOp fMod (mCall fInt (mCons (mVar 3) mNil)) (mVar 4)) mNil)))
(sAsg (mOp fDiv (mCall fInt (mCons (mVar 3) mNil)) (mVar 4)) (mgName 3)))
def S1_law_digits : MS := (sFor (mSeq (mVar 1)) (mgName 4)
L1_law_digits)
def L2_law_digits : MS := (sSeq (sAsg (mOp fMod (mCall fInt (mCons (mOp (fAdd false) (mOp (fAdd false) (mOp (fMul false) (mVar 5) (mC (.int 48271))) (mOp (fMul false) (mC (.int 974711)) (mVar 6))) (mC (.int 12345))) mNil)) (mC (.int 2147483647))) (mgName 5))
(sSeq (sAsg (mOp fMod (mCall fInt (mCons (mOp (fMul false) (mVar 5) (mOp (fAdd false) (mOp fDiv (mVar 5) (mC (.int 65537))) (mC (.int 3)))) mNil)) (mC (.int 2147483629))) (mgName 7))
(sExp (mBM "list" fAppend (mVar 2) (mCons (mOp fMod (mOp fDiv (mVar 7) (mC (.int 19))) (mOp fIx (mVar 1) (mVar 6))) mNil)))))
def S2_law_digits : MS := (sFor (mRng1 (mCons (mCall fLen (mCons (mVar 1) mNil)) mNil)) (mgName 6)
L2_law_digits)
abbrev st_law_digits : Stmt := topS 12
def N_law_digits : List Str := ["cell", "sizes", "row", "rest", "size", "seed", "k", "twice"]
theorem sc_law_digits : FnScope N_law_digits ["cell", "sizes"] (defScope st_law_digits) := ⟨rfl, rfl, rfl, by decide +kernel, rfl, by decide +kernel, by decide +kernel⟩
def m_law_digits : MS := (sSeq (sAsg (mLst true mNil) (mgName 2))
(sSeq (sAsg (mCall fInt (mCons (mVar 0) mNil)) (mgName 3))
(sSeq (sIf (mTst (mOp fGe (mVar 3) (mOp fPow (mC (.int 10)) (mC (.int 18)))))
(sSeq (sAsg (mOp fSub (mVar 3) (mOp fPow (mC (.int 10)) (mC (.int 18)))) (mgName 3))
(sSeq S1_law_digits
(sRet (mVar 2))))
sPass)
(sSeq (sAsg (mOp fMod (mCall fInt (mCons (mVar 3) mNil)) (mC (.int 2147483629))) (mgName 5))
(sSeq S2_law_digits
(sRet (mVar 2)))))))
def g_law_digits : List T → Option T := runT 8 m_law_digits
theorem ok_law_digits {f : Addr} {fd : FuncData} (F : Fun K "_law_digits" "_law_digits" st_law_digits f fd) (Tp : Top mg)  : FnOk P w K mg base CX0 1 f fd ["cell", "sizes"] (spT ⟨K, w⟩ 2 g_law_digits) :=
  fn_ok (N := N_law_digits) (k := 0) (mb := m_law_digits) F sc_law_digits fun cdv A outer s H E hr => by
    have hu := hr.units
    have nd := sc_law_digits.nd
    exact ⟨_, (ss_cons (s_set (i := 2) nd (x_lst true xa_nil))
      (ss_cons (s_set (i := 3) nd (x_callTy c_int rfl Tp.b_int bt_int (xa_cons (xv 0) xa_nil)))
      (ss_cons (s_if (xt_cmp o_ge (xv 3) (x_bin o_pow x_int x_int))
      (ss_cons (s_set (i := 3) nd (x_bin o_sub (xv 3) (x_bin o_pow x_int x_int)))
      (ss_cons (s_for PassesOwn.never rfl (xi_seq (xv 1)) (xg_name (i := 4) nd)
      (ss_cons (s_expr (x_bm m_append (xv 2) (xa_cons (x_bin o_mod (x_callTy c_int rfl Tp.b_int bt_int (xa_cons (xv 3) xa_nil)) (xv 4)) xa_nil)))
      (ss_one (s_set (i := 3) nd (x_bin o_fdiv (x_callTy c_int rfl Tp.b_int bt_int (xa_cons (xv 3) xa_nil)) (xv 4))))))
      (ss_one (s_ret (xv 2)))))
      ss_nil)
      (ss_cons (s_set (i := 5) nd (x_bin o_mod (x_callTy c_int rfl Tp.b_int bt_int (xa_cons (xv 3) xa_nil)) x_int))
      (ss_cons (s_for PassesOwn.never rfl (xi_rng1 rfl Tp.b_range (xa_cons (x_callB c_len rfl Tp.b_len bt_len (xa_cons (xv 1) xa_nil)) xa_nil)) (xg_name (i := 6) nd)
      (ss_cons (s_set (i := 5) nd (x_bin o_mod (x_callTy c_int rfl Tp.b_int bt_int (xa_cons (x_bin (o_add false) (x_bin (o_add false) (x_bin (o_mul false) (xv 5) x_int) (x_bin (o_mul false) x_int (xv 6))) x_int) xa_nil)) x_int))
      (ss_cons (s_set (i := 7) nd (x_bin o_mod (x_callTy c_int rfl Tp.b_int bt_int (xa_cons (x_bin (o_mul false) (xv 5) (x_bin (o_add false) (x_bin o_fdiv (xv 5) x_int) x_int)) xa_nil)) x_int))
      (ss_one (s_expr (x_bm m_append (xv 2) (xa_cons (x_bin o_mod (x_bin o_fdiv (xv 7) x_int) (x_ix (xv 1) (xv 6))) xa_nil)))))))
      (ss_one (s_ret (xv 2))))))))⟩
def E1_law_net : ME := (mVar 6)
def C1_law_net : ME := (mLc true [6] (mRng1 (mCons (mVar 2) mNil)) (mgName 6) mYes E1_law_net)
def E2_law_net : ME := (mBM "list" fPop (mVar 3) (mCons (mOp fMod (mOp fDiv (mCall fInt (mCons (mOp fIx (mVar 0) (mVar 6)) mNil)) (mCall fMax (mCons (mC (.int 1)) (mCons (mVar 6) mNil)))) (mCall fLen (mCons (mVar 3) mNil))) mNil))
def C2_law_net : ME := (mLc false [6] (mRng1 (mCons (mVar 2) mNil)) (mgName 6) mYes E2_law_net)
def L1_law_net : MS := (sSeq (sAsg (mOp fIx (mVar 4) (mOp fMod (mCall fInt (mCons (mOp fIx (mVar 0) (mVar 6)) mNil)) (mVar 6))) (mgName 7))
(sExp (mBM "list" fAppend (mVar 5) (mCons (mTup (mCons (mCall fMin (mCons (mVar 7) (mCons (mOp fIx (mVar 4) (mVar 6)) mNil))) (mCons (mCall fMax (mCons (mVar 7) (mCons (mOp fIx (mVar 4) (mVar 6)) mNil))) mNil))) mNil))))
def S1_law_net : MS := (sFor (mRng2 (mCons (mC (.int 1)) (mCons (mVar 2) mNil))) (mgName 6)
L1_law_net)
def L2_law_net : MS := (sSeq (sAsg (mOp fMod (mCall fInt (mCons (mOp fIx (mVar 0) (mOp (fAdd false) (mC (.int 8)) (mOp (fMul false) (mC (.int 3)) (mVar 6)))) mNil)) (mVar 2)) (mgName 7))
(sSeq (sAsg (mOp fMod (mCall fInt (mCons (mOp fIx (mVar 0) (mOp (fAdd false) (mC (.int 9)) (mOp (fMul false) (mC (.int 3)) (mVar 6)))) mNil)) (mVar 2)) (mgName 8))
(sIf (mAnd (mTst (mOp fGt (mOp fIx (mVar 0) (mOp (fAdd false) (mC (.int 7)) (mOp (fMul false) (mC (.int 3)) (mVar 6)))) (mC (.int 0)))) (mAnd (mTst (mOp fNe (mVar 7) (mVar 8))) (mTst (mOp (fIn true) (mTup (mCons (mCall fMin (mCons (mVar 7) (mCons (mVar 8) mNil))) (mCons (mCall fMax (mCons (mVar 7) (mCons (mVar 8) mNil))) mNil))) (mVar 5)))))
(sExp (mBM "list" fAppend (mVar 5) (mCons (mTup (mCons (mCall fMin (mCons (mVar 7) (mCons (mVar 8) mNil))) (mCons (mCall fMax (mCons (mVar 7) (mCons (mVar 8) mNil))) mNil))) mNil)))
sPass)))
def S2_law_net : MS := (sFor (mRng1 (mCons (mC (.int 4)) mNil)) (mgName 6)
L2_law_net)
abbrev st_law_net : Stmt := topS 13
def N_law_net : List Str := ["row", "upto", "size", "left", "names", "links", "k", "a", "b"]
theorem sc_law_net : FnScope N_law_net ["row", "upto"] (defScope st_law_net) := ⟨rfl, rfl, rfl, by decide +kernel, rfl, by decide +kernel, by decide +kernel⟩
def m_law_net : MS := (sSeq (sAsg (mCall fMin (mCons (mVar 1) (mCons (mOp fIx (mLst false (mCons (mC (.int 3)) (mCons (mC (.int 4)) (mCons (mC (.int 5)) (mCons (mC (.int 6)) (mCons (mC (.int 7)) (mCons (mC (.int 2)) (mCons (mC (.int 4)) (mCons (mC (.int 1)) mNil))))))))) (mOp fIx (mVar 0) (mC (.int 0)))) mNil))) (mgName 2))
(sSeq (sAsg C1_law_net (mgName 3))
(sSeq (sAsg C2_law_net (mgName 4))
(sSeq (sAsg (mLst true mNil) (mgName 5))
(sSeq S1_law_net
(sSeq S2_law_net
(sRet (mLst false (mCons (mVar 2) (mCons (mCall (fSorted false) (mCons (mVar 5) mNil)) mNil))))))))))
def g_law_net : List T → Option T := runT 9 m_law_net
theorem ok_law_net {f : Addr} {fd : FuncData} (F : Fun K "_law_net" "_law_net" st_law_net f fd) (Tp : Top mg)  : FnOk P w K mg base CX0 1 f fd ["row", "upto"] (spT ⟨K, w⟩ 2 g_law_net) :=
  fn_ok (N := N_law_net) (k := 0) (mb := m_law_net) F sc_law_net fun cdv A outer s H E hr => by
    have hu := hr.units
    have nd := sc_law_net.nd
    exact ⟨_, (ss_cons (s_set (i := 2) nd (x_callB (c_min rfl) rfl Tp.b_min bt_min (xa_cons (xv 1) (xa_cons (x_ix (x_lst false (xa_cons x_int (xa_cons x_int (xa_cons x_int (xa_cons x_int (xa_cons x_int (xa_cons x_int (xa_cons x_int (xa_cons x_int xa_nil))))))))) (x_ix (xv 0) x_int)) xa_nil))))
      (ss_cons (s_set (i := 3) nd (y_lc (own := [("k", 6)]) true rfl nd (xi_rng1 rfl Tp.b_range (xa_cons (xv 2) xa_nil)) (blkOk_by (N := N_law_net) (sc := defScope st_law_net) (by decide +kernel)) (fun _ _ _ _ _ => (xg_name (i := 6) (by exact nd))) (fr_name (vs := [6]) (i := 6)) (fun _ _ _ _ _ => ⟨_, xp_nil⟩) (fun _ _ _ _ _ => ⟨_, (xv 6)⟩)))
      (ss_cons (y_setLc (i := 4) (own := [("k", 6)]) false rfl nd (xi_rng1 rfl Tp.b_range (xa_cons (xv 2) xa_nil)) (blkOk_by (N := N_law_net) (sc := defScope st_law_net) (by decide +kernel)) (fun _ _ _ _ _ => (xg_name (i := 6) (by exact nd))) (fr_name (vs := [6]) (i := 6)) (fun _ _ _ _ _ => ⟨_, xp_nil⟩) (fun _ _ _ _ _ => ⟨_, (x_bm m_popAt (xv 3) (xa_cons (x_bin o_mod (x_bin o_fdiv (x_callTy c_int (by rfl) Tp.b_int bt_int (xa_cons (x_ix (xv 0) (xv 6)) xa_nil)) (x_callB (c_max (by rfl)) (by rfl) Tp.b_max bt_max (xa_cons x_int (xa_cons (xv 6) xa_nil)))) (x_callB c_len (by rfl) Tp.b_len bt_len (xa_cons (xv 3) xa_nil))) xa_nil))⟩) (sw_true rfl rfl rfl (by decide +kernel)))
      (ss_cons (s_set (i := 5) nd (x_lst true xa_nil))
      (ss_cons (s_for PassesOwn.never rfl (xi_rng2 rfl Tp.b_range (xa_cons x_int (xa_cons (xv 2) xa_nil))) (xg_name (i := 6) nd)
      (ss_cons (s_set (i := 7) nd (x_ix (xv 4) (x_bin o_mod (x_callTy c_int rfl Tp.b_int bt_int (xa_cons (x_ix (xv 0) (xv 6)) xa_nil)) (xv 6))))
      (ss_one (s_expr (x_bm m_append (xv 5) (xa_cons (x_tup (xa_cons (x_callB (c_min rfl) rfl Tp.b_min bt_min (xa_cons (xv 7) (xa_cons (x_ix (xv 4) (xv 6)) xa_nil))) (xa_cons (x_callB (c_max rfl) rfl Tp.b_max bt_max (xa_cons (xv 7) (xa_cons (x_ix (xv 4) (xv 6)) xa_nil))) xa_nil))) xa_nil))))))
      (ss_cons (s_for PassesOwn.never rfl (xi_rng1 rfl Tp.b_range (xa_cons x_int xa_nil)) (xg_name (i := 6) nd)
      (ss_cons (s_set (i := 7) nd (x_bin o_mod (x_callTy c_int rfl Tp.b_int bt_int (xa_cons (x_ix (xv 0) (x_bin (o_add false) x_int (x_bin (o_mul false) x_int (xv 6)))) xa_nil)) (xv 2)))
      (ss_cons (s_set (i := 8) nd (x_bin o_mod (x_callTy c_int rfl Tp.b_int bt_int (xa_cons (x_ix (xv 0) (x_bin (o_add false) x_int (x_bin (o_mul false) x_int (xv 6)))) xa_nil)) (xv 2)))
      (ss_one (s_if (xt_w (xw_and (xt_cmp o_gt (x_ix (xv 0) (x_bin (o_add false) x_int (x_bin (o_mul false) x_int (xv 6)))) x_int) (xw_and (xt_cmp (o_ne hu) (xv 7) (xv 8)) (xw_and1 (xt_cmp (o_nin hu) (x_tup (xa_cons (x_callB (c_min rfl) rfl Tp.b_min bt_min (xa_cons (xv 7) (xa_cons (xv 8) xa_nil))) (xa_cons (x_callB (c_max rfl) rfl Tp.b_max bt_max (xa_cons (xv 7) (xa_cons (xv 8) xa_nil))) xa_nil))) (xv 5))))))
      (ss_one (s_expr (x_bm m_append (xv 5) (xa_cons (x_tup (xa_cons (x_callB (c_min rfl) rfl Tp.b_min bt_min (xa_cons (xv 7) (xa_cons (xv 8) xa_nil))) (xa_cons (x_callB (c_max rfl) rfl Tp.b_max bt_max (xa_cons (xv 7) (xa_cons (xv 8) xa_nil))) xa_nil))) xa_nil))))
      ss_nil)))))
      (ss_one (s_ret (x_lst false (xa_cons (xv 2) (xa_cons (x_callB (c_sorted false hu) rfl Tp.b_sorted bt_sorted (xa_cons (xv 5) xa_nil)) xa_nil)))))))))))⟩
def E1_law_near : ME := (mLst true mNil)
def C1_law_near : ME := (mLc true [4] (mRng1 (mCons (mVar 0) mNil)) (mgName 4) mYes E1_law_near)
def L1_law_near : MS := (sSeq (sExp (mBM "list" fAppend (mOp fIx (mVar 2) (mOp fIx (mVar 3) (mC (.int 0)))) (mCons (mOp fIx (mVar 3) (mC (.int 1))) mNil)))
(sExp (mBM "list" fAppend (mOp fIx (mVar 2) (mOp fIx (mVar 3) (mC (.int 1)))) (mCons (mOp fIx (mVar 3) (mC (.int 0))) mNil))))
def S1_law_near : MS := (sFor (mSeq (mVar 1)) (mgName 3)
L1_law_near)
def E2_law_near : ME := (mCall (fSorted false) (mCons (mVar 5) mNil))
def C2_law_near : ME := (mLc false [5] (mSeq (mVar 2)) (mgName 5) mYes E2_law_near)
abbrev st_law_near : Stmt := topS 14
def N_law_near : List Str := ["size", "links", "near", "link", "k", "row"]
theorem sc_law_near : FnScope N_law_near ["size", "links"] (defScope st_law_near) := ⟨rfl, rfl, rfl, by decide +kernel, rfl, by decide +kernel, by decide +kernel⟩
def m_law_near : MS := (sSeq (sAsg C1_law_near (mgName 2))
(sSeq S1_law_near
(sRet C2_law_near)))
def g_law_near : List T → Option T := runT 6 m_law_near
theorem ok_law_near {f : Addr} {fd : FuncData} (F : Fun K "_law_near" "_law_near" st_law_near f fd) (Tp : Top mg)  : FnOk P w K mg base CX0 1 f fd ["size", "links"] (spT ⟨K, w⟩ 2 g_law_near) :=
  fn_ok (N := N_law_near) (k := 0) (mb := m_law_near) F sc_law_near fun cdv A outer s H E hr => by
    have hu := hr.units
    have nd := sc_law_near.nd
    exact ⟨_, (ss_cons (y_setLc (i := 2) (own := [("k", 4)]) true rfl nd (xi_rng1 rfl Tp.b_range (xa_cons (xv 0) xa_nil)) (blkOk_by (N := N_law_near) (sc := defScope st_law_near) (by decide +kernel)) (fun _ _ _ _ _ => (xg_name (i := 4) (by exact nd))) (fr_name (vs := [4]) (i := 4)) (fun _ _ _ _ _ => ⟨_, xp_nil⟩) (fun _ _ _ _ _ => ⟨_, (x_lst true xa_nil)⟩) (sw_true rfl rfl rfl (by decide +kernel)))
      (ss_cons (s_for PassesOwn.never rfl (xi_seq (xv 1)) (xg_name (i := 3) nd)
      (ss_cons (s_expr (x_bm m_append (x_ix (xv 2) (x_ix (xv 3) x_int)) (xa_cons (x_ix (xv 3) x_int) xa_nil)))
      (ss_one (s_expr (x_bm m_append (x_ix (xv 2) (x_ix (xv 3) x_int)) (xa_cons (x_ix (xv 3) x_int) xa_nil))))))
      (ss_one (s_ret (y_lc (own := [("row", 5)]) false rfl nd (xi_seq (xv 2)) (blkOk_by (N := N_law_near) (sc := defScope st_law_near) (by decide +kernel)) (fun _ _ _ _ _ => (xg_name (i := 5) (by exact nd))) (fr_name (vs := [5]) (i := 5)) (fun _ _ _ _ _ => ⟨_, xp_nil⟩) (fun _ _ _ _ _ => ⟨_, (x_callB (c_sorted false (by exact hu)) (by rfl) Tp.b_sorted bt_sorted (xa_cons (xv 5) xa_nil))⟩))))))⟩
def L2_law_reaches : MS := (sIf (mAnd (mTst (mOp (fIn true) (mVar 6) (mVar 4))) (mTst (mOp (fIn true) (mVar 6) (mVar 1))))
(sExp (mBM "list" fAppend (mVar 4) (mCons (mVar 6) mNil)))
sPass)
def S2_law_reaches : MS := (sFor (mSeq (mOp fIx (mVar 0) (mOp fIx (mVar 4) (mVar 5)))) (mgName 6)
L2_law_reaches)
def L1_law_reaches : MS := (sIf (mTst (mOp fLt (mVar 5) (mCall fLen (mCons (mVar 4) mNil))))
S2_law_reaches
sPass)
def S1_law_reaches : MS := (sFor (mRng1 (mCons (mCall fLen (mCons (mVar 0) mNil)) mNil)) (mgName 5)
L1_law_reaches)
abbrev st_law_reaches : Stmt := topS 15
def N_law_reaches : List Str := ["near", "route", "start", "goal", "reached", "at", "b"]
theorem sc_law_reaches : FnScope N_law_reaches ["near", "route", "start", "goal"] (defScope st_law_reaches) := ⟨rfl, rfl, rfl, by decide +kernel, rfl, by decide +kernel, by decide +kernel⟩
def m_law_reaches : MS := (sSeq (sAsg (mLst true (mCons (mVar 2) mNil)) (mgName 4))
(sSeq S1_law_reaches
(sRet (mOp (fIn false) (mVar 3) (mVar 4)))))
def g_law_reaches : List T → Option T := runT 7 m_law_reaches
theorem ok_law_reaches {f : Addr} {fd : FuncData} (F : Fun K "_law_reaches" "_law_reaches" st_law_reaches f fd) (Tp : Top mg)  : FnOk P w K mg base CX0 1 f fd ["near", "route", "start", "goal"] (spT ⟨K, w⟩ 4 g_law_reaches) :=
  fn_ok (N := N_law_reaches) (k := 0) (mb := m_law_reaches) F sc_law_reaches fun cdv A outer s H E hr => by
    have hu := hr.units
    have nd := sc_law_reaches.nd
    exact ⟨_, (ss_cons (s_set (i := 4) nd (x_lst true (xa_cons (xv 2) xa_nil)))
      (ss_cons (s_for PassesOwn.never rfl (xi_rng1 rfl Tp.b_range (xa_cons (x_callB c_len rfl Tp.b_len bt_len (xa_cons (xv 0) xa_nil)) xa_nil)) (xg_name (i := 5) nd)
      (ss_one (s_if (xt_cmp o_lt (xv 5) (x_callB c_len rfl Tp.b_len bt_len (xa_cons (xv 4) xa_nil)))
      (ss_one (s_for PassesOwn.never rfl (xi_seq (x_ix (xv 0) (x_ix (xv 4) (xv 5)))) (xg_name (i := 6) nd)
      (ss_one (s_if (xt_w (xw_and (xt_cmp (o_nin hu) (xv 6) (xv 4)) (xw_and1 (xt_cmp (o_nin hu) (xv 6) (xv 1)))))
      (ss_one (s_expr (x_bm m_append (xv 4) (xa_cons (xv 6) xa_nil))))
      ss_nil))))
      ss_nil)))
      (ss_one (s_ret (x_cmp (o_in hu) (xv 3) (xv 4))))))⟩
def T1_law_free_route : MB := (mTst (mOp (fIn true) (mVar 9) (mVar 4)))
def E1_law_free_route : ME := (mVar 9)
def C1_law_free_route : ME := (mLc false [9] (mSeq (mOp fIx (mVar 0) (mOp fIx (mVar 4) (mUn fNeg (mC (.int 1)))))) (mgName 9) T1_law_free_route E1_law_free_route)
def T2_law_free_route : MB := (mTru (mCallD g_law_reaches (mCons (mVar 0) (mCons (mVar 4) (mCons (mVar 9) (mCons (mVar 2) mNil))))))
def E2_law_free_route : ME := (mVar 9)
def C2_law_free_route : ME := (mLc false [9] (mSeq (mVar 7)) (mgName 9) T2_law_free_route E2_law_free_route)
def L1_law_free_route : MS := (sSeq (sIf (mTst (mOp fEq (mOp fIx (mVar 4) (mUn fNeg (mC (.int 1)))) (mVar 2)))
sBrk
sPass)
(sSeq (sAsg C1_law_free_route (mgName 7))
(sSeq (sAsg C2_law_free_route (mgName 7))
(sSeq (sAsg (mOp fMod (mCall fInt (mCons (mVar 5) mNil)) (mCall fLen (mCons (mVar 7) mNil))) (mgName 8))
(sSeq (sAsg (mOp fDiv (mVar 5) (mCall fLen (mCons (mVar 7) mNil))) (mgName 5))
(sExp (mBM "list" fAppend (mVar 4) (mCons (mOp fIx (mVar 7) (mVar 8)) mNil))))))))
def S1_law_free_route : MS := (sFor (mRng1 (mCons (mCall fLen (mCons (mVar 0) mNil)) mNil)) (mgName 6)
L1_law_free_route)
abbrev st_law_free_route : Stmt := topS 16
def N_law_free_route : List Str := ["near", "u", "v", "number", "route", "rest", "step", "options", "pick", "b"]
theorem sc_law_free_route : FnScope N_law_free_route ["near", "u", "v", "number"] (defScope st_law_free_route) := ⟨rfl, rfl, rfl, by decide +kernel, rfl, by decide +kernel, by decide +kernel⟩
def m_law_free_route : MS := (sSeq (sAsg (mLst true (mCons (mVar 1) mNil)) (mgName 4))
(sSeq (sAsg (mCall fInt (mCons (mVar 3) mNil)) (mgName 5))
(sSeq S1_law_free_route
(sRet (mCall fTuple (mCons (mVar 4) mNil))))))
def g_law_free_route : List T → Option T := runT 10 m_law_free_route
theorem ok_law_free_route {f : Addr} {fd : FuncData} (F : Fun K "_law_free_route" "_law_free_route" st_law_free_route f fd) (Tp : Top mg) (D_law_reaches : DefOk P w K mg base "_law_reaches" 4 1 g_law_reaches) : FnOk P w K mg base CX0 2 f fd ["near", "u", "v", "number"] (spT ⟨K, w⟩ 4 g_law_free_route) :=
  fn_ok (N := N_law_free_route) (k := 1) (mb := m_law_free_route) F sc_law_free_route fun cdv A outer s H E hr => by
    have hu := hr.units
    have nd := sc_law_free_route.nd
    exact ⟨_, (ss_cons (s_set (i := 4) nd (x_lst true (xa_cons (xv 1) xa_nil)))
      (ss_cons (s_set (i := 5) nd (x_callTy c_int rfl Tp.b_int bt_int (xa_cons (xv 3) xa_nil)))
      (ss_cons (s_for PassesOwn.never rfl (xi_rng1 rfl Tp.b_range (xa_cons (x_callB c_len rfl Tp.b_len bt_len (xa_cons (xv 0) xa_nil)) xa_nil)) (xg_name (i := 6) nd)
      (ss_cons (s_if (xt_cmp (o_eq hu) (x_ix (xv 4) (x_neg x_int)) (xv 2))
      (ss_one s_brk)
      ss_nil)
      (ss_cons (y_setLc (i := 7) (own := [("b", 9)]) false rfl nd (xi_seq (x_ix (xv 0) (x_ix (xv 4) (x_neg x_int)))) (blkOk_by (N := N_law_free_route) (sc := defScope st_law_free_route) (by decide +kernel)) (fun _ _ _ _ _ => (xg_name (i := 9) (by exact nd))) (fr_name (vs := [9]) (i := 9)) (fun _ _ _ _ _ => ⟨_, (xp_one (xt_cmp (o_nin (by exact hu)) (xv 9) (xv 4)))⟩) (fun _ _ _ _ _ => ⟨_, (xv 9)⟩) (sw_true rfl rfl rfl (by decide +kernel)))
      (ss_cons (y_setLc (i := 7) (own := [("b", 9)]) false rfl nd (xi_seq (xv 7)) (blkOk_by (N := N_law_free_route) (sc := defScope st_law_free_route) (by decide +kernel)) (fun _ _ _ _ _ => (xg_name (i := 9) (by exact nd))) (fr_name (vs := [9]) (i := 9)) (fun _ _ _ _ _ => ⟨_, (xp_one (xt_tru (x_call D_law_reaches (by exact hr.mono (by omega)) (by rfl) (xa_cons (xv 0) (xa_cons (xv 4) (xa_cons (xv 9) (xa_cons (xv 2) xa_nil)))) (len_cons (len_cons (len_cons (len_cons len_nil)))))))⟩) (fun _ _ _ _ _ => ⟨_, (xv 9)⟩) (sw_true rfl rfl rfl (by decide +kernel)))
      (ss_cons (s_set (i := 8) nd (x_bin o_mod (x_callTy c_int rfl Tp.b_int bt_int (xa_cons (xv 5) xa_nil)) (x_callB c_len rfl Tp.b_len bt_len (xa_cons (xv 7) xa_nil))))
      (ss_cons (s_set (i := 5) nd (x_bin o_fdiv (xv 5) (x_callB c_len rfl Tp.b_len bt_len (xa_cons (xv 7) xa_nil))))
      (ss_one (s_expr (x_bm m_append (xv 4) (xa_cons (x_ix (xv 7) (xv 8)) xa_nil))))))))))
      (ss_one (s_ret (x_callTy c_tuple rfl Tp.b_tuple bt_tuple (xa_cons (xv 4) xa_nil)))))))⟩
def E1_law_run : ME := (mC (.int 0))
def C1_law_run : ME := (mLc true [12] (mRng1 (mCons (mVar 3) mNil)) (mgName 12) mYes E1_law_run)
def E2_law_run : ME := (mOp fIx (mOp fIx (mVar 0) (mVar 12)) (mC (.int 0)))
def C2_law_run : ME := (mLc true [12] (mRng1 (mCons (mVar 3) mNil)) (mgName 12) mYes E2_law_run)
def E3_law_run : ME := (mLst true mNil)
def C3_law_run : ME := (mLc true [12] (mRng1 (mCons (mVar 3) mNil)) (mgName 12) mYes E3_law_run)
def T4_law_run : MB := (mTst (mOp fLt (mOp fIx (mVar 4) (mVar 12)) (mOp fSub (mCall fLen (mCons (mOp fIx (mOp fIx (mVar 0) (mVar 12)) (mC (.int 1))) mNil)) (mC (.int 1)))))
def E4_law_run : ME := (mVar 12)
def C4_law_run : ME := (mLc false [12] (mRng1 (mCons (mVar 3) mNil)) (mgName 12) T4_law_run E4_law_run)
def I1_law_run : MS := (sIf (mTst (mOp fEq (mCall fLen (mCons (mVar 10) mNil)) (mC (.int 0))))
sBrk
sPass)
def E5_law_run : ME := (mOp fIx (mVar 5) (mVar 12))
def C5_law_run : ME := (mLc false [12] (mSeq (mVar 10)) (mgName 12) mYes E5_law_run)
def I2_law_run : MS := (sIf (mTst (mOp fLe (mOp fIx (mVar 5) (mVar 12)) (mVar 8)))
(sSeq (sAsg (mOp fIx (mOp fIx (mVar 0) (mVar 12)) (mC (.int 1))) (mgName 13))
(sSeq (sAsg (mBM "dict" fSetd (mVar 11) (mCons (mTup (mCons (mOp fIx (mVar 13) (mOp fIx (mVar 4) (mVar 12))) (mCons (mOp fIx (mVar 13) (mOp (fAdd false) (mOp fIx (mVar 4) (mVar 12)) (mC (.int 1)))) mNil))) (mCons (mLst true mNil) mNil))) (mgName 14))
(sExp (mBM "list" fAppend (mVar 14) (mCons (mVar 12) mNil)))))
sPass)
def L2_law_run : MS := I2_law_run
def S2_law_run : MS := (sFor (mSeq (mVar 10)) (mgName 12)
L2_law_run)
def I4_law_run : MS := (sIf (mTst (mOp fLt (mCall fLen (mCons (mVar 7) mNil)) (mCall fLen (mCons (mVar 2) mNil))))
(sSeq (sAsg (mOp fIx (mVar 2) (mCall fLen (mCons (mVar 7) mNil))) (mgName 18))
(sExp (mBM "list" fAppend (mVar 7) (mCons (mVar 18) mNil))))
sPass)
def I3_law_run : MS := (sIf (mAnd (mTst (mOp (fIs false) (mVar 1) (mC .non))) (mTst (mOp fGt (mCall fLen (mCons (mVar 14) mNil)) (mC (.int 1)))))
(sSeq (sAsg (mC (.int 0)) (mgName 18))
(sSeq I4_law_run
(sAsg (mOp fIx (mVar 14) (mOp fMod (mCall fInt (mCons (mVar 18) mNil)) (mCall fLen (mCons (mVar 14) mNil)))) (mgName 17))))
sPass)
def I5_law_run : MS := (sIf (mTst (mOp (fIs true) (mVar 1) (mC .non)))
sNever
sPass)
def L3_law_run : MS := (sSeq (sAsg (mOp fDGet (mVar 11) (mVar 16)) (mgName 14))
(sSeq (sAsg (mOp fIx (mVar 14) (mC (.int 0))) (mgName 17))
(sSeq I3_law_run
(sSeq I5_law_run
(sExp (mBM "list" fAppend (mVar 15) (mCons (mVar 17) mNil)))))))
def S3_law_run : MS := (sFor (mSeq (mCall (fSorted false) (mCons (mKeysT false 16 11) mNil))) (mgName 16)
L3_law_run)
def L4_law_run : MS := (sSeq (sAsg (mOp fIx (mVar 6) (mVar 12)) (mgName 19))
(sSeq (sExp (mBM "list" fAppend (mVar 19) (mCons (mVar 8) mNil)))
(sSeq (sAsg (mOp (fAdd false) (mOp fIx (mVar 4) (mVar 12)) (mC (.int 1))) (mgSub (mVar 4) (mVar 12)))
(sAsg (mOp (fAdd false) (mVar 8) (mC (.int 1))) (mgSub (mVar 5) (mVar 12))))))
def S4_law_run : MS := (sFor (mSeq (mVar 15)) (mgName 12)
L4_law_run)
def L1_law_run : MS := (sSeq (sAsg C4_law_run (mgName 10))
(sSeq I1_law_run
(sSeq (sAsg (mCall fMax (mCons (mVar 8) (mCons (mCall fMin (mCons C5_law_run mNil)) mNil))) (mgName 8))
(sSeq (sAsg mDNewT (mgName 11))
(sSeq S2_law_run
(sSeq (sAsg (mLst true mNil) (mgName 15))
(sSeq S3_law_run
(sSeq S4_law_run
(sAsg (mOp (fAdd false) (mVar 8) (mC (.int 1))) (mgName 8))))))))))
def S1_law_run : MS := (sFor (mRng1 (mCons (mC (.int 3000)) mNil)) (mgName 9)
L1_law_run)
def E6_law_run : ME := (mCall fTuple (mCons (mVar 20) mNil))
def C6_law_run : ME := (mLc false [20] (mSeq (mVar 6)) (mgName 20) mYes E6_law_run)
abbrev st_law_run : Stmt := topS 17
def N_law_run : List Str := ["crowd", "order", "numbers", "many", "at", "came", "carried", "used", "beat", "turn", "going", "asked", "k", "route", "row", "moved", "lane", "best", "pick", "mine", "beats"]
theorem sc_law_run : FnScope N_law_run ["crowd", "order", "numbers"] (defScope st_law_run) := ⟨rfl, rfl, rfl, by decide +kernel, rfl, by decide +kernel, by decide +kernel⟩
def m_law_run : MS := (sSeq (sAsg (mCall fLen (mCons (mVar 0) mNil)) (mgName 3))
(sSeq (sAsg C1_law_run (mgName 4))
(sSeq (sAsg C2_law_run (mgName 5))
(sSeq (sAsg C3_law_run (mgName 6))
(sSeq (sAsg (mLst true mNil) (mgName 7))
(sSeq (sAsg (mC (.int 0)) (mgName 8))
(sSeq S1_law_run
(sRet (mLst false (mCons (mCall fTuple (mCons C6_law_run mNil)) (mCons (mVar 7) mNil)))))))))))
def g_law_run : List T → Option T := runT 21 m_law_run
theorem ok_law_run {f : Addr} {fd : FuncData} (F : Fun K "_law_run" "_law_run" st_law_run f fd) (Tp : Top mg)  : FnOk P w K mg base CX0 1 f fd ["crowd", "order", "numbers"] (spT ⟨K, w⟩ 3 g_law_run) :=
  fn_ok (N := N_law_run) (k := 0) (mb := m_law_run) F sc_law_run fun cdv A outer s H E hr => by
    have hu := hr.units
    have nd := sc_law_run.nd
    exact ⟨_, (ss_cons (s_set (i := 3) nd (x_callB c_len rfl Tp.b_len bt_len (xa_cons (xv 0) xa_nil)))
      (ss_cons (s_set (i := 4) nd (y_lc (own := [("k", 12)]) true rfl nd (xi_rng1 rfl Tp.b_range (xa_cons (xv 3) xa_nil)) (blkOk_by (N := N_law_run) (sc := defScope st_law_run) (by decide +kernel)) (fun _ _ _ _ _ => (xg_name (i := 12) (by exact nd))) (fr_name (vs := [12]) (i := 12)) (fun _ _ _ _ _ => ⟨_, xp_nil⟩) (fun _ _ _ _ _ => ⟨_, x_int⟩)))
      (ss_cons (s_set (i := 5) nd (y_lc (own := [("k", 12)]) true rfl nd (xi_rng1 rfl Tp.b_range (xa_cons (xv 3) xa_nil)) (blkOk_by (N := N_law_run) (sc := defScope st_law_run) (by decide +kernel)) (fun _ _ _ _ _ => (xg_name (i := 12) (by exact nd))) (fr_name (vs := [12]) (i := 12)) (fun _ _ _ _ _ => ⟨_, xp_nil⟩) (fun _ _ _ _ _ => ⟨_, (x_ix (x_ix (xv 0) (xv 12)) x_int)⟩)))
      (ss_cons (y_setLc (i := 6) (own := [("k", 12)]) true rfl nd (xi_rng1 rfl Tp.b_range (xa_cons (xv 3) xa_nil)) (blkOk_by (N := N_law_run) (sc := defScope st_law_run) (by decide +kernel)) (fun _ _ _ _ _ => (xg_name (i := 12) (by exact nd))) (fr_name (vs := [12]) (i := 12)) (fun _ _ _ _ _ => ⟨_, xp_nil⟩) (fun _ _ _ _ _ => ⟨_, (x_lst true xa_nil)⟩) (sw_true rfl rfl rfl (by decide +kernel)))
      (ss_cons (s_set (i := 7) nd (x_lst true xa_nil))
      (ss_cons (s_set (i := 8) nd x_int)
      (ss_cons (s_for PassesOwn.never rfl (xi_rng1 rfl Tp.b_range (xa_cons x_int xa_nil)) (xg_name (i := 9) nd)
      (ss_cons (y_setLc (i := 10) (own := [("k", 12)]) false rfl nd (xi_rng1 rfl Tp.b_range (xa_cons (xv 3) xa_nil)) (blkOk_by (N := N_law_run) (sc := defScope st_law_run) (by decide +kernel)) (fun _ _ _ _ _ => (xg_name (i := 12) (by exact nd))) (fr_name (vs := [12]) (i := 12)) (fun _ _ _ _ _ => ⟨_, (xp_one (xt_cmp o_lt (x_ix (xv 4) (xv 12)) (x_bin o_sub (x_callB c_len (by rfl) Tp.b_len bt_len (xa_cons (x_ix (x_ix (xv 0) (xv 12)) x_int) xa_nil)) x_int)))⟩) (fun _ _ _ _ _ => ⟨_, (xv 12)⟩) (sw_true rfl rfl rfl (by decide +kernel)))
      (ss_cons (s_if (xt_cmp (o_eq hu) (x_callB c_len rfl Tp.b_len bt_len (xa_cons (xv 10) xa_nil)) x_int)
      (ss_one s_brk)
      ss_nil)
      (ss_cons (s_set (i := 8) nd (x_callB (c_max rfl) rfl Tp.b_max bt_max (xa_cons (xv 8) (xa_cons (x_callB (c_min rfl) rfl Tp.b_min bt_min (xa_cons (y_lc (own := [("k", 12)]) false rfl nd (xi_seq (xv 10)) (blkOk_by (N := N_law_run) (sc := defScope st_law_run) (by decide +kernel)) (fun _ _ _ _ _ => (xg_name (i := 12) (by exact nd))) (fr_name (vs := [12]) (i := 12)) (fun _ _ _ _ _ => ⟨_, xp_nil⟩) (fun _ _ _ _ _ => ⟨_, (x_ix (xv 5) (xv 12))⟩)) xa_nil)) xa_nil))))
      (ss_cons (s_set (i := 11) nd x_dnewT)
      (ss_cons (s_for PassesOwn.never rfl (xi_seq (xv 10)) (xg_name (i := 12) nd)
      (ss_one (s_if (xt_cmp o_le (x_ix (xv 5) (xv 12)) (xv 8))
      (ss_cons (s_set (i := 13) nd (x_ix (x_ix (xv 0) (xv 12)) x_int))
      (ss_cons (s_set (i := 14) nd (x_bm (m_setd hu) (xv 11) (xa_cons (x_tup (xa_cons (x_ix (xv 13) (x_ix (xv 4) (xv 12))) (xa_cons (x_ix (xv 13) (x_bin (o_add false) (x_ix (xv 4) (xv 12)) x_int)) xa_nil))) (xa_cons (x_lst true xa_nil) xa_nil))))
      (ss_one (s_expr (x_bm m_append (xv 14) (xa_cons (xv 12) xa_nil))))))
      ss_nil)))
      (ss_cons (s_set (i := 15) nd (x_lst true xa_nil))
      (ss_cons (s_for PassesOwn.never rfl (xi_seq (x_callB (c_sorted false hu) rfl Tp.b_sorted bt_sorted (xa_cons (x_keysT (i := 16) (j := 11) (x := "lane") false rfl nd (xv 11) (blkOk_by (N := N_law_run) (sc := defScope st_law_run) (by decide +kernel)) (fun _ _ _ _ _ => xg_name (i := 16) nd) (fun _ _ _ _ _ => xv 16)) xa_nil))) (xg_name (i := 16) nd)
      (ss_cons (s_set (i := 14) nd (x_dget hu (xv 11) (xv 16)))
      (ss_cons (s_set (i := 17) nd (x_ix (xv 14) x_int))
      (ss_cons (s_if (xt_w (xw_and (xt_cmp o_isN (xv 1) x_non) (xw_and1 (xt_cmp o_gt (x_callB c_len rfl Tp.b_len bt_len (xa_cons (xv 14) xa_nil)) x_int))))
      (ss_cons (s_set (i := 18) nd x_int)
      (ss_cons (s_if (xt_cmp o_lt (x_callB c_len rfl Tp.b_len bt_len (xa_cons (xv 7) xa_nil)) (x_callB c_len rfl Tp.b_len bt_len (xa_cons (xv 2) xa_nil)))
      (ss_cons (s_set (i := 18) nd (x_ix (xv 2) (x_callB c_len rfl Tp.b_len bt_len (xa_cons (xv 7) xa_nil))))
      (ss_one (s_expr (x_bm m_append (xv 7) (xa_cons (xv 18) xa_nil)))))
      ss_nil)
      (ss_one (s_set (i := 17) nd (x_ix (xv 14) (x_bin o_mod (x_callTy c_int rfl Tp.b_int bt_int (xa_cons (xv 18) xa_nil)) (x_callB c_len rfl Tp.b_len bt_len (xa_cons (xv 14) xa_nil))))))))
      ss_nil)
      (ss_cons (s_if (xt_cmp o_notN (xv 1) x_non)
      (ss_one s_never)
      ss_nil)
      (ss_one (s_expr (x_bm m_append (xv 15) (xa_cons (xv 17) xa_nil)))))))))
      (ss_cons (s_for PassesOwn.never rfl (xi_seq (xv 15)) (xg_name (i := 12) nd)
      (ss_cons (s_set (i := 19) nd (x_ix (xv 6) (xv 12)))
      (ss_cons (s_expr (x_bm m_append (xv 19) (xa_cons (xv 8) xa_nil)))
      (ss_cons (s_asg (x_bin (o_add false) (x_ix (xv 4) (xv 12)) x_int) (xg_sub (xv 4) (xv 12)))
      (ss_one (s_asg (x_bin (o_add false) (xv 8) x_int) (xg_sub (xv 5) (xv 12))))))))
      (ss_one (s_set (i := 8) nd (x_bin (o_add false) (xv 8) x_int))))))))))))
      (ss_one (s_ret (x_lst false (xa_cons (x_callTy c_tuple rfl Tp.b_tuple bt_tuple (xa_cons (y_lc (own := [("beats", 20)]) false rfl nd (xi_seq (xv 6)) (blkOk_by (N := N_law_run) (sc := defScope st_law_run) (by decide +kernel)) (fun _ _ _ _ _ => (xg_name (i := 20) (by exact nd))) (fr_name (vs := [20]) (i := 20)) (fun _ _ _ _ _ => ⟨_, xp_nil⟩) (fun _ _ _ _ _ => ⟨_, (x_callTy c_tuple (by rfl) Tp.b_tuple bt_tuple (xa_cons (xv 20) xa_nil))⟩)) xa_nil)) (xa_cons (xv 7) xa_nil))))))))))))⟩
def L1_law_urgent : MS := (sSeq (sAsg (mOp fSub (mOp fSub (mCall fLen (mCons (mOp fIx (mOp fIx (mVar 0) (mVar 8)) (mC (.int 1))) mNil)) (mC (.int 1))) (mOp fIx (mVar 4) (mVar 8))) (mgName 9))
(sSeq (sAsg (mOp fSub (mOp fSub (mVar 5) (mOp fIx (mOp fIx (mVar 0) (mVar 8)) (mC (.int 0)))) (mOp fIx (mVar 4) (mVar 8))) (mgName 10))
(sSeq (sAsg (mC (.int 0)) (mgName 11))
(sSeq (sIf (mTst (mOp fEq (mVar 1) (mC (.str "first"))))
(sAsg (mOp fIx (mVar 3) (mVar 8)) (mgName 11))
sPass)
(sSeq (sIf (mTst (mOp fEq (mVar 1) (mC (.str "last"))))
(sAsg (mOp fSub (mC (.int 0)) (mOp fIx (mVar 3) (mVar 8))) (mgName 11))
sPass)
(sSeq (sIf (mTst (mOp fEq (mVar 1) (mC (.str "far"))))
(sAsg (mOp fSub (mC (.int 0)) (mVar 9)) (mgName 11))
sPass)
(sSeq (sIf (mTst (mOp fEq (mVar 1) (mC (.str "near"))))
(sAsg (mVar 9) (mgName 11))
sPass)
(sSeq (sIf (mTst (mOp fEq (mVar 1) (mC (.str "late"))))
(sAsg (mOp fSub (mC (.int 0)) (mVar 10)) (mgName 11))
sPass)
(sIf (mOr (mTst (mOp (fIs false) (mVar 6) (mC .non))) (mTst (mOp fLt (mVar 11) (mVar 7))))
(sSeq (sAsg (mVar 8) (mgName 6))
(sAsg (mVar 11) (mgName 7)))
sPass)))))))))
def S1_law_urgent : MS := (sFor (mSeq (mVar 2)) (mgName 8)
L1_law_urgent)
abbrev st_law_urgent : Stmt := topS 18
def N_law_urgent : List Str := ["crowd", "order", "row", "came", "at", "beat", "best", "least", "k", "left", "waited", "number"]
theorem sc_law_urgent : FnScope N_law_urgent ["crowd", "order", "row", "came", "at", "beat"] (defScope st_law_urgent) := ⟨rfl, rfl, rfl, by decide +kernel, rfl, by decide +kernel, by decide +kernel⟩
def m_law_urgent : MS := (sSeq (sAsg (mC .non) (mgName 6))
(sSeq (sAsg (mC (.int 0)) (mgName 7))
(sSeq S1_law_urgent
(sRet (mVar 6)))))
def g_law_urgent : List T → Option T := runT 12 m_law_urgent
theorem ok_law_urgent {f : Addr} {fd : FuncData} (F : Fun K "_law_urgent" "_law_urgent" st_law_urgent f fd) (Tp : Top mg)  : FnOk P w K mg base CX0 1 f fd ["crowd", "order", "row", "came", "at", "beat"] (spT ⟨K, w⟩ 6 g_law_urgent) :=
  fn_ok (N := N_law_urgent) (k := 0) (mb := m_law_urgent) F sc_law_urgent fun cdv A outer s H E hr => by
    have hu := hr.units
    have nd := sc_law_urgent.nd
    exact ⟨_, (ss_cons (s_set (i := 6) nd x_non)
      (ss_cons (s_set (i := 7) nd x_int)
      (ss_cons (s_for PassesOwn.never rfl (xi_seq (xv 2)) (xg_name (i := 8) nd)
      (ss_cons (s_set (i := 9) nd (x_bin o_sub (x_bin o_sub (x_callB c_len rfl Tp.b_len bt_len (xa_cons (x_ix (x_ix (xv 0) (xv 8)) x_int) xa_nil)) x_int) (x_ix (xv 4) (xv 8))))
      (ss_cons (s_set (i := 10) nd (x_bin o_sub (x_bin o_sub (xv 5) (x_ix (x_ix (xv 0) (xv 8)) x_int)) (x_ix (xv 4) (xv 8))))
      (ss_cons (s_set (i := 11) nd x_int)
      (ss_cons (s_if (xt_cmp (o_eq hu) (xv 1) x_str)
      (ss_one (s_set (i := 11) nd (x_ix (xv 3) (xv 8))))
      ss_nil)
      (ss_cons (s_if (xt_cmp (o_eq hu) (xv 1) x_str)
      (ss_one (s_set (i := 11) nd (x_bin o_sub x_int (x_ix (xv 3) (xv 8)))))
      ss_nil)
      (ss_cons (s_if (xt_cmp (o_eq hu) (xv 1) x_str)
      (ss_one (s_set (i := 11) nd (x_bin o_sub x_int (xv 9))))
      ss_nil)
      (ss_cons (s_if (xt_cmp (o_eq hu) (xv 1) x_str)
      (ss_one (s_set (i := 11) nd (xv 9)))
      ss_nil)
      (ss_cons (s_if (xt_cmp (o_eq hu) (xv 1) x_str)
      (ss_one (s_set (i := 11) nd (x_bin o_sub x_int (xv 10))))
      ss_nil)
      (ss_one (s_if (xt_w (xw_or (xt_cmp o_isN (xv 6) x_non) (xw_or1 (xt_cmp o_lt (xv 11) (xv 7)))))
      (ss_cons (s_set (i := 6) nd (xv 8))
      (ss_one (s_set (i := 7) nd (xv 11))))
      ss_nil)))))))))))
      (ss_one (s_ret (xv 6))))))⟩
def L2_law_is_run : MS := (sSeq (sAsg (mOp fIx (mOp fIx (mVar 1) (mVar 3)) (mVar 6)) (mgName 7))
(sSeq (sAsg (mTup (mCons (mOp fIx (mVar 4) (mVar 6)) (mCons (mOp fIx (mVar 4) (mOp (fAdd false) (mVar 6) (mC (.int 1)))) (mCons (mVar 7) mNil)))) (mgName 8))
(sSeq (sIf (mOr (mTst (mOp fLt (mVar 7) (mVar 5))) (mTst (mOp (fInN false) (mVar 8) (mVar 2))))
(sRet (mC (.bl false)))
sPass)
(sSeq (sAsg (mVar 3) (mgSubN (mVar 2) (mVar 8)))
(sAsg (mOp (fAdd false) (mVar 7) (mC (.int 1))) (mgName 5))))))
def S2_law_is_run : MS := (sFor (mRng1 (mCons (mOp fSub (mCall fLen (mCons (mVar 4) mNil)) (mC (.int 1))) mNil)) (mgName 6)
L2_law_is_run)
def L1_law_is_run : MS := (sSeq (sAsg (mOp fIx (mOp fIx (mVar 0) (mVar 3)) (mC (.int 1))) (mgName 4))
(sSeq (sIf (mTst (mOp fNe (mCall fLen (mCons (mOp fIx (mVar 1) (mVar 3)) mNil)) (mOp fSub (mCall fLen (mCons (mVar 4) mNil)) (mC (.int 1)))))
(sRet (mC (.bl false)))
sPass)
(sSeq (sAsg (mOp fIx (mOp fIx (mVar 0) (mVar 3)) (mC (.int 0))) (mgName 5))
S2_law_is_run)))
def S1_law_is_run : MS := (sFor (mRng1 (mCons (mCall fLen (mCons (mVar 0) mNil)) mNil)) (mgName 3)
L1_law_is_run)
def L5_law_is_run : MS := (sIf (mTst (mOp (fInN true) (mTup (mCons (mOp fIx (mVar 4) (mVar 6)) (mCons (mOp fIx (mVar 4) (mOp (fAdd false) (mVar 6) (mC (.int 1)))) (mCons (mVar 7) mNil)))) (mVar 2)))
(sRet (mC (.bl false)))
sPass)
def S5_law_is_run : MS := (sFor (mRng2 (mCons (mVar 9) (mCons (mOp fIx (mOp fIx (mVar 1) (mVar 3)) (mVar 6)) mNil))) (mgName 7)
L5_law_is_run)
def L4_law_is_run : MS := (sSeq (sIf (mTst (mOp fGt (mOp fSub (mOp fIx (mOp fIx (mVar 1) (mVar 3)) (mVar 6)) (mVar 9)) (mCall fLen (mCons (mVar 0) mNil))))
(sRet (mC (.bl false)))
sPass)
(sSeq S5_law_is_run
(sAsg (mOp (fAdd false) (mOp fIx (mOp fIx (mVar 1) (mVar 3)) (mVar 6)) (mC (.int 1))) (mgName 9))))
def S4_law_is_run : MS := (sFor (mRng1 (mCons (mOp fSub (mCall fLen (mCons (mVar 4) mNil)) (mC (.int 1))) mNil)) (mgName 6)
L4_law_is_run)
def L3_law_is_run : MS := (sSeq (sAsg (mOp fIx (mOp fIx (mVar 0) (mVar 3)) (mC (.int 1))) (mgName 4))
(sSeq (sAsg (mOp fIx (mOp fIx (mVar 0) (mVar 3)) (mC (.int 0))) (mgName 9))
S4_law_is_run))
def S3_law_is_run : MS := (sFor (mRng1 (mCons (mCall fLen (mCons (mVar 0) mNil)) mNil)) (mgName 3)
L3_law_is_run)
abbrev st_law_is_run : Stmt := topS 19
def N_law_is_run : List Str := ["crowd", "carried", "found", "k", "route", "least", "j", "beat", "key", "came"]
theorem sc_law_is_run : FnScope N_law_is_run ["crowd", "carried"] (defScope st_law_is_run) := ⟨rfl, rfl, rfl, by decide +kernel, rfl, by decide +kernel, by decide +kernel⟩
def m_law_is_run : MS := (sSeq (sIf (mTst (mOp fNe (mCall fLen (mCons (mVar 1) mNil)) (mCall fLen (mCons (mVar 0) mNil))))
(sRet (mC (.bl false)))
sPass)
(sSeq (sAsg mDNewN (mgName 2))
(sSeq S1_law_is_run
(sSeq S3_law_is_run
(sRet (mC (.bl true)))))))
def g_law_is_run : List T → Option T := runT 10 m_law_is_run
theorem ok_law_is_run {f : Addr} {fd : FuncData} (F : Fun K "_law_is_run" "_law_is_run" st_law_is_run f fd) (Tp : Top mg)  : FnOk P w K mg base CX0 1 f fd ["crowd", "carried"] (spT ⟨K, w⟩ 2 g_law_is_run) :=
  fn_ok (N := N_law_is_run) (k := 0) (mb := m_law_is_run) F sc_law_is_run fun cdv A outer s H E hr => by
    have hu := hr.units
    have nd := sc_law_is_run.nd
    exact ⟨_, (ss_cons (s_if (xt_cmp (o_ne hu) (x_callB c_len rfl Tp.b_len bt_len (xa_cons (xv 1) xa_nil)) (x_callB c_len rfl Tp.b_len bt_len (xa_cons (xv 0) xa_nil)))
      (ss_one (s_ret x_bl))
      ss_nil)
      (ss_cons (s_set (i := 2) nd x_dnewN)
      (ss_cons (s_for PassesOwn.never rfl (xi_rng1 rfl Tp.b_range (xa_cons (x_callB c_len rfl Tp.b_len bt_len (xa_cons (xv 0) xa_nil)) xa_nil)) (xg_name (i := 3) nd)
      (ss_cons (s_set (i := 4) nd (x_ix (x_ix (xv 0) (xv 3)) x_int))
      (ss_cons (s_if (xt_cmp (o_ne hu) (x_callB c_len rfl Tp.b_len bt_len (xa_cons (x_ix (xv 1) (xv 3)) xa_nil)) (x_bin o_sub (x_callB c_len rfl Tp.b_len bt_len (xa_cons (xv 4) xa_nil)) x_int))
      (ss_one (s_ret x_bl))
      ss_nil)
      (ss_cons (s_set (i := 5) nd (x_ix (x_ix (xv 0) (xv 3)) x_int))
      (ss_one (s_for PassesOwn.never rfl (xi_rng1 rfl Tp.b_range (xa_cons (x_bin o_sub (x_callB c_len rfl Tp.b_len bt_len (xa_cons (xv 4) xa_nil)) x_int) xa_nil)) (xg_name (i := 6) nd)
      (ss_cons (s_set (i := 7) nd (x_ix (x_ix (xv 1) (xv 3)) (xv 6)))
      (ss_cons (s_set (i := 8) nd (x_tup (xa_cons (x_ix (xv 4) (xv 6)) (xa_cons (x_ix (xv 4) (x_bin (o_add false) (xv 6) x_int)) (xa_cons (xv 7) xa_nil)))))
      (ss_cons (s_if (xt_w (xw_or (xt_cmp o_lt (xv 7) (xv 5)) (xw_or1 (xt_cmp (o_inN hu) (xv 8) (xv 2)))))
      (ss_one (s_ret x_bl))
      ss_nil)
      (ss_cons (s_asg (xv 3) (xg_subN hu (xv 2) (xv 8)))
      (ss_one (s_set (i := 5) nd (x_bin (o_add false) (xv 7) x_int)))))))))))))
      (ss_cons (s_for PassesOwn.never rfl (xi_rng1 rfl Tp.b_range (xa_cons (x_callB c_len rfl Tp.b_len bt_len (xa_cons (xv 0) xa_nil)) xa_nil)) (xg_name (i := 3) nd)
      (ss_cons (s_set (i := 4) nd (x_ix (x_ix (xv 0) (xv 3)) x_int))
      (ss_cons (s_set (i := 9) nd (x_ix (x_ix (xv 0) (xv 3)) x_int))
      (ss_one (s_for PassesOwn.never rfl (xi_rng1 rfl Tp.b_range (xa_cons (x_bin o_sub (x_callB c_len rfl Tp.b_len bt_len (xa_cons (xv 4) xa_nil)) x_int) xa_nil)) (xg_name (i := 6) nd)
      (ss_cons (s_if (xt_cmp o_gt (x_bin o_sub (x_ix (x_ix (xv 1) (xv 3)) (xv 6)) (xv 9)) (x_callB c_len rfl Tp.b_len bt_len (xa_cons (xv 0) xa_nil)))
      (ss_one (s_ret x_bl))
      ss_nil)
      (ss_cons (s_for PassesOwn.never rfl (xi_rng2 rfl Tp.b_range (xa_cons (xv 9) (xa_cons (x_ix (x_ix (xv 1) (xv 3)) (xv 6)) xa_nil))) (xg_name (i := 7) nd)
      (ss_one (s_if (xt_cmp (o_ninN hu) (x_tup (xa_cons (x_ix (xv 4) (xv 6)) (xa_cons (x_ix (xv 4) (x_bin (o_add false) (xv 6) x_int)) (xa_cons (xv 7) xa_nil)))) (xv 2))
      (ss_one (s_ret x_bl))
      ss_nil)))
      (ss_one (s_set (i := 9) nd (x_bin (o_add false) (x_ix (x_ix (xv 1) (xv 3)) (xv 6)) x_int))))))))))
      (ss_one (s_ret x_bl))))))⟩
def I1_law_crowd : MS := (sIf (mAnd (mTst (mOp fEq (mVar 6) (mVar 7))) (mAnd (mTst (mOp fGt (mVar 2) (mC (.int 1)))) (mTst (mOp fGt (mOp fIx (mVar 1) (mOp (fAdd false) (mVar 5) (mC (.int 2)))) (mC (.int 1))))))
(sAsg (mOp fMod (mCall fInt (mCons (mOp (fAdd false) (mOp (fAdd false) (mVar 6) (mC (.int 1))) (mOp fMod (mOp fIx (mVar 1) (mVar 5)) (mOp fSub (mVar 2) (mC (.int 1))))) mNil)) (mVar 2)) (mgName 7))
sPass)
def I2_law_crowd : MS := (sIf (mAnd (mTst (mOp fEq (mOp fIx (mVar 1) (mC (.int 1))) (mC (.int 1)))) (mTst (mOp fGt (mVar 4) (mC (.int 0)))))
(sSeq (sAsg (mOp fIx (mOp fIx (mOp fIx (mVar 3) (mC (.int 0))) (mC (.int 1))) (mC (.int 0))) (mgName 6))
(sSeq (sAsg (mOp fIx (mOp fIx (mOp fIx (mVar 3) (mC (.int 0))) (mC (.int 1))) (mUn fNeg (mC (.int 1)))) (mgName 7))
(sAsg (mOp fIx (mVar 1) (mC (.int 2))) (mgName 8))))
sPass)
def L1_law_crowd : MS := (sSeq (sAsg (mOp (fAdd false) (mC (.int 2)) (mOp (fMul false) (mC (.int 3)) (mVar 4))) (mgName 5))
(sSeq (sAsg (mOp fMod (mOp fDiv (mOp fIx (mVar 1) (mOp (fAdd false) (mVar 5) (mC (.int 1)))) (mC (.int 7))) (mVar 2)) (mgName 6))
(sSeq (sAsg (mOp fMod (mOp fIx (mVar 1) (mOp (fAdd false) (mVar 5) (mC (.int 1)))) (mVar 2)) (mgName 7))
(sSeq I1_law_crowd
(sSeq (sAsg (mOp fIx (mVar 1) (mVar 5)) (mgName 8))
(sSeq I2_law_crowd
(sSeq (sAsg (mOp fIx (mLst false (mCons (mC (.int 0)) (mCons (mC (.int 0)) (mCons (mC (.int 0)) (mCons (mC (.int 1)) (mCons (mC (.int 2)) (mCons (mC (.int 3)) (mCons (mC (.int 6)) (mCons (mC (.int 0)) mNil))))))))) (mOp fIx (mVar 1) (mOp (fAdd false) (mVar 5) (mC (.int 2))))) (mgName 9))
(sExp (mBM "list" fAppend (mVar 3) (mCons (mTup (mCons (mVar 9) (mCons (mCallD g_law_free_route (mCons (mVar 0) (mCons (mVar 6) (mCons (mVar 7) (mCons (mVar 8) mNil))))) mNil))) mNil))))))))))
def S1_law_crowd : MS := (sFor (mRng1 (mCons (mOp fIx (mVar 1) (mC (.int 0))) mNil)) (mgName 4)
L1_law_crowd)
abbrev st_law_crowd : Stmt := topS 20
def N_law_crowd : List Str := ["near", "row", "size", "crowd", "k", "at", "u", "v", "number", "start"]
theorem sc_law_crowd : FnScope N_law_crowd ["near", "row"] (defScope st_law_crowd) := ⟨rfl, rfl, rfl, by decide +kernel, rfl, by decide +kernel, by decide +kernel⟩
def m_law_crowd : MS := (sSeq (sAsg (mCall fLen (mCons (mVar 0) mNil)) (mgName 2))
(sSeq (sAsg (mLst true mNil) (mgName 3))
(sSeq S1_law_crowd
(sRet (mVar 3)))))
def g_law_crowd : List T → Option T := runT 10 m_law_crowd
theorem ok_law_crowd {f : Addr} {fd : FuncData} (F : Fun K "_law_crowd" "_law_crowd" st_law_crowd f fd) (Tp : Top mg) (D_law_free_route : DefOk P w K mg base "_law_free_route" 4 2 g_law_free_route) : FnOk P w K mg base CX0 3 f fd ["near", "row"] (spT ⟨K, w⟩ 2 g_law_crowd) :=
  fn_ok (N := N_law_crowd) (k := 2) (mb := m_law_crowd) F sc_law_crowd fun cdv A outer s H E hr => by
    have hu := hr.units
    have nd := sc_law_crowd.nd
    exact ⟨_, (ss_cons (s_set (i := 2) nd (x_callB c_len rfl Tp.b_len bt_len (xa_cons (xv 0) xa_nil)))
      (ss_cons (s_set (i := 3) nd (x_lst true xa_nil))
      (ss_cons (s_for PassesOwn.never rfl (xi_rng1 rfl Tp.b_range (xa_cons (x_ix (xv 1) x_int) xa_nil)) (xg_name (i := 4) nd)
      (ss_cons (s_set (i := 5) nd (x_bin (o_add false) x_int (x_bin (o_mul false) x_int (xv 4))))
      (ss_cons (s_set (i := 6) nd (x_bin o_mod (x_bin o_fdiv (x_ix (xv 1) (x_bin (o_add false) (xv 5) x_int)) x_int) (xv 2)))
      (ss_cons (s_set (i := 7) nd (x_bin o_mod (x_ix (xv 1) (x_bin (o_add false) (xv 5) x_int)) (xv 2)))
      (ss_cons (s_if (xt_w (xw_and (xt_cmp (o_eq hu) (xv 6) (xv 7)) (xw_and (xt_cmp o_gt (xv 2) x_int) (xw_and1 (xt_cmp o_gt (x_ix (xv 1) (x_bin (o_add false) (xv 5) x_int)) x_int)))))
      (ss_one (s_set (i := 7) nd (x_bin o_mod (x_callTy c_int rfl Tp.b_int bt_int (xa_cons (x_bin (o_add false) (x_bin (o_add false) (xv 6) x_int) (x_bin o_mod (x_ix (xv 1) (xv 5)) (x_bin o_sub (xv 2) x_int))) xa_nil)) (xv 2))))
      ss_nil)
      (ss_cons (s_set (i := 8) nd (x_ix (xv 1) (xv 5)))
      (ss_cons (s_if (xt_w (xw_and (xt_cmp (o_eq hu) (x_ix (xv 1) x_int) x_int) (xw_and1 (xt_cmp o_gt (xv 4) x_int))))
      (ss_cons (s_set (i := 6) nd (x_ix (x_ix (x_ix (xv 3) x_int) x_int) x_int))
      (ss_cons (s_set (i := 7) nd (x_ix (x_ix (x_ix (xv 3) x_int) x_int) (x_neg x_int)))
      (ss_one (s_set (i := 8) nd (x_ix (xv 1) x_int)))))
      ss_nil)
      (ss_cons (s_set (i := 9) nd (x_ix (x_lst false (xa_cons x_int (xa_cons x_int (xa_cons x_int (xa_cons x_int (xa_cons x_int (xa_cons x_int (xa_cons x_int (xa_cons x_int xa_nil))))))))) (x_ix (xv 1) (x_bin (o_add false) (xv 5) x_int))))
      (ss_one (s_expr (x_bm m_append (xv 3) (xa_cons (x_tup (xa_cons (xv 9) (xa_cons (x_call D_law_free_route (by exact hr.mono (by omega)) (by rfl) (xa_cons (xv 0) (xa_cons (xv 6) (xa_cons (xv 7) (xa_cons (xv 8) xa_nil)))) (len_cons (len_cons (len_cons (len_cons len_nil))))) xa_nil))) xa_nil))))))))))))
      (ss_one (s_ret (xv 3))))))⟩
def L2_law_stretches : MS := (sSeq (sAsg (mBM "list" fPop (mVar 5) (mCons (mOp fMod (mCall fInt (mCons (mVar 4) mNil)) (mCall fLen (mCons (mVar 5) mNil))) mNil)) (mgName 8))
(sSeq (sAsg (mOp fDiv (mVar 4) (mC (.int 4))) (mgName 4))
(sAsg (mOp (fAdd false) (mVar 6) (mLst false (mCons (mOp (fMul false) (mC (.int 3)) (mVar 8)) (mCons (mOp (fAdd false) (mOp (fMul false) (mC (.int 3)) (mVar 8)) (mC (.int 1))) (mCons (mOp (fAdd false) (mOp (fMul false) (mC (.int 3)) (mVar 8)) (mC (.int 2))) mNil))))) (mgName 6))))
def S2_law_stretches : MS := (sFor (mRng1 (mCons (mOp fIx (mLst false (mCons (mC (.int 4)) (mCons (mC (.int 3)) (mCons (mC (.int 4)) (mCons (mC (.int 2)) (mCons (mC (.int 3)) (mCons (mC (.int 4)) mNil))))))) (mOp fIx (mVar 0) (mVar 3))) mNil)) (mgName 7)
L2_law_stretches)
def L1_law_stretches : MS := (sSeq (sAsg (mOp (fAdd false) (mC (.int 1)) (mOp (fMul false) (mC (.int 3)) (mVar 2))) (mgName 3))
(sSeq (sAsg (mOp fIx (mVar 0) (mOp (fAdd false) (mVar 3) (mC (.int 1)))) (mgName 4))
(sSeq (sAsg (mLst true (mCons (mC (.int 0)) (mCons (mC (.int 1)) (mCons (mC (.int 2)) (mCons (mC (.int 3)) mNil))))) (mgName 5))
(sSeq (sAsg (mLst false mNil) (mgName 6))
(sSeq S2_law_stretches
(sSeq (sAsg (mCall fMax (mCons (mC (.int 0)) (mCons (mOp fSub (mOp fMod (mCall fInt (mCons (mVar 4) mNil)) (mC (.int 6))) (mC (.int 3))) mNil))) (mgName 9))
(sExp (mBM "list" fAppend (mVar 1) (mCons (mTup (mCons (mOp fIx (mLst false (mCons (mC (.int 0)) (mCons (mC (.int 3)) (mCons (mC (.int 6)) (mCons (mC (.int 3)) (mCons (mC (.int 1)) mNil)))))) (mOp fIx (mVar 0) (mOp (fAdd false) (mVar 3) (mC (.int 2))))) (mCons (mCall fTuple (mCons (mSl false (mVar 6) (mSome (mVar 9)) mNo) mNil)) mNil))) mNil)))))))))
def S1_law_stretches : MS := (sFor (mRng1 (mCons (mOp fIx (mVar 0) (mC (.int 0))) mNil)) (mgName 2)
L1_law_stretches)
abbrev st_law_stretches : Stmt := topS 21
def N_law_stretches : List Str := ["row", "crowd", "k", "at", "code", "left", "route", "step", "block", "cut"]
theorem sc_law_stretches : FnScope N_law_stretches ["row"] (defScope st_law_stretches) := ⟨rfl, rfl, rfl, by decide +kernel, rfl, by decide +kernel, by decide +kernel⟩
def m_law_stretches : MS := (sSeq (sAsg (mLst true mNil) (mgName 1))
(sSeq S1_law_stretches
(sRet (mVar 1))))
def g_law_stretches : List T → Option T := runT 10 m_law_stretches
theorem ok_law_stretches {f : Addr} {fd : FuncData} (F : Fun K "_law_stretches" "_law_stretches" st_law_stretches f fd) (Tp : Top mg)  : FnOk P w K mg base CX0 1 f fd ["row"] (spT ⟨K, w⟩ 1 g_law_stretches) :=
  fn_ok (N := N_law_stretches) (k := 0) (mb := m_law_stretches) F sc_law_stretches fun cdv A outer s H E hr => by
    have hu := hr.units
    have nd := sc_law_stretches.nd
    exact ⟨_, (ss_cons (s_set (i := 1) nd (x_lst true xa_nil))
      (ss_cons (s_for PassesOwn.never rfl (xi_rng1 rfl Tp.b_range (xa_cons (x_ix (xv 0) x_int) xa_nil)) (xg_name (i := 2) nd)
      (ss_cons (s_set (i := 3) nd (x_bin (o_add false) x_int (x_bin (o_mul false) x_int (xv 2))))
      (ss_cons (s_set (i := 4) nd (x_ix (xv 0) (x_bin (o_add false) (xv 3) x_int)))
      (ss_cons (s_set (i := 5) nd (x_lst true (xa_cons x_int (xa_cons x_int (xa_cons x_int (xa_cons x_int xa_nil))))))
      (ss_cons (s_set (i := 6) nd (x_lst false xa_nil))
      (ss_cons (s_for PassesOwn.never rfl (xi_rng1 rfl Tp.b_range (xa_cons (x_ix (x_lst false (xa_cons x_int (xa_cons x_int (xa_cons x_int (xa_cons x_int (xa_cons x_int (xa_cons x_int xa_nil))))))) (x_ix (xv 0) (xv 3))) xa_nil)) (xg_name (i := 7) nd)
      (ss_cons (s_set (i := 8) nd (x_bm m_popAt (xv 5) (xa_cons (x_bin o_mod (x_callTy c_int rfl Tp.b_int bt_int (xa_cons (xv 4) xa_nil)) (x_callB c_len rfl Tp.b_len bt_len (xa_cons (xv 5) xa_nil))) xa_nil)))
      (ss_cons (s_set (i := 4) nd (x_bin o_fdiv (xv 4) x_int))
      (ss_one (s_set (i := 6) nd (x_bin (o_add false) (xv 6) (x_lst false (xa_cons (x_bin (o_mul false) x_int (xv 8)) (xa_cons (x_bin (o_add false) (x_bin (o_mul false) x_int (xv 8)) x_int) (xa_cons (x_bin (o_add false) (x_bin (o_mul false) x_int (xv 8)) x_int) xa_nil))))))))))
      (ss_cons (s_set (i := 9) nd (x_callB (c_max rfl) rfl Tp.b_max bt_max (xa_cons x_int (xa_cons (x_bin o_sub (x_bin o_mod (x_callTy c_int rfl Tp.b_int bt_int (xa_cons (xv 4) xa_nil)) x_int) x_int) xa_nil))))
      (ss_one (s_expr (x_bm m_append (xv 1) (xa_cons (x_tup (xa_cons (x_ix (x_lst false (xa_cons x_int (xa_cons x_int (xa_cons x_int (xa_cons x_int (xa_cons x_int xa_nil)))))) (x_ix (xv 0) (x_bin (o_add false) (xv 3) x_int))) (xa_cons (x_callTy c_tuple rfl Tp.b_tuple bt_tuple (xa_cons (x_slice false (xv 6) (xo_some (xv 9)) xo_none) xa_nil)) xa_nil))) xa_nil)))))))))))
      (ss_one (s_ret (xv 1)))))⟩
def E1_law_named : ME := (mOp fMod (mCall fInt (mCons (mOp (fAdd false) (mOp (fMul false) (mVar 3) (mC (.int 7))) (mVar 1)) mNil)) (mC (.int 24)))
def C1_law_named : ME := (mLc false [3] (mRng1 (mCons (mC (.int 24)) mNil)) (mgName 3) mYes E1_law_named)
def E2_law_named : ME := (mOp fIx (mVar 2) (mVar 5))
def C2_law_named : ME := (mLc false [5] (mSeq (mOp fIx (mVar 4) (mC (.int 1)))) (mgName 5) mYes E2_law_named)
def E3_law_named : ME := (mTup (mCons (mOp fIx (mVar 4) (mC (.int 0))) (mCons (mCall fTuple (mCons C2_law_named mNil)) mNil)))
def C3_law_named : ME := (mLc false [4] (mSeq (mVar 0)) (mgName 4) mYes E3_law_named)
abbrev st_law_named : Stmt := topS 22
def N_law_named : List Str := ["crowd", "shift", "names", "k", "letter", "node"]
theorem sc_law_named : FnScope N_law_named ["crowd", "shift"] (defScope st_law_named) := ⟨rfl, rfl, rfl, by decide +kernel, rfl, by decide +kernel, by decide +kernel⟩
def m_law_named : MS := (sSeq (sAsg C1_law_named (mgName 2))
(sRet C3_law_named))
def g_law_named : List T → Option T := runT 6 m_law_named
theorem ok_law_named {f : Addr} {fd : FuncData} (F : Fun K "_law_named" "_law_named" st_law_named f fd) (Tp : Top mg)  : FnOk P w K mg base CX0 1 f fd ["crowd", "shift"] (spT ⟨K, w⟩ 2 g_law_named) :=
  fn_ok (N := N_law_named) (k := 0) (mb := m_law_named) F sc_law_named fun cdv A outer s H E hr => by
    have hu := hr.units
    have nd := sc_law_named.nd
    exact ⟨_, (ss_cons (s_set (i := 2) nd (y_lc (own := [("k", 3)]) false rfl nd (xi_rng1 rfl Tp.b_range (xa_cons x_int xa_nil)) (blkOk_by (N := N_law_named) (sc := defScope st_law_named) (by decide +kernel)) (fun _ _ _ _ _ => (xg_name (i := 3) (by exact nd))) (fr_name (vs := [3]) (i := 3)) (fun _ _ _ _ _ => ⟨_, xp_nil⟩) (fun _ _ _ _ _ => ⟨_, (x_bin o_mod (x_callTy c_int (by rfl) Tp.b_int bt_int (xa_cons (x_bin (o_add false) (x_bin (o_mul false) (xv 3) x_int) (xv 1)) xa_nil)) x_int)⟩)))
      (ss_one (s_ret (y_lc (own := [("letter", 4)]) false rfl nd (xi_seq (xv 0)) (blkOk_by (N := N_law_named) (sc := defScope st_law_named) (by decide +kernel)) (fun _ _ _ _ _ => (xg_name (i := 4) (by exact nd))) (fr_name (vs := [4]) (i := 4)) (fun _ _ _ _ _ => ⟨_, xp_nil⟩) (fun _ _ _ _ _ => ⟨_, (x_tup (xa_cons (x_ix (xv 4) x_int) (xa_cons (x_callTy c_tuple (by rfl) Tp.b_tuple bt_tuple (xa_cons (y_lc (own := [("node", 5)]) false (by rfl) (by exact nd) (xi_seq (x_ix (xv 4) x_int)) (blkOk_by (by rfl)) (fun _ _ _ _ _ => (xg_name (i := 5) (by exact nd))) (fr_name (vs := [5]) (i := 5)) (fun _ _ _ _ _ => ⟨_, xp_nil⟩) (fun _ _ _ _ _ => ⟨_, (x_ix (xv 2) (xv 5))⟩)) xa_nil)) xa_nil)))⟩)))))⟩
def E1_law_many : ME := (mOp fMod (mOp fDiv (mVar 3) (mCall fLen (mCons (mVar 0) mNil))) (mC (.int 4)))
def C1_law_many : ME := (mLc false [3] (mRng1 (mCons (mVar 1) mNil)) (mgName 3) mYes E1_law_many)
def E2_law_many : ME := (mTup (mCons (mOp (fAdd false) (mOp fIx (mOp fIx (mVar 0) (mOp fMod (mVar 3) (mCall fLen (mCons (mVar 0) mNil)))) (mC (.int 0))) (mOp fIx (mVar 2) (mVar 3))) (mCons (mOp fIx (mOp fIx (mVar 0) (mOp fMod (mVar 3) (mCall fLen (mCons (mVar 0) mNil)))) (mC (.int 1))) mNil)))
def C2_law_many : ME := (mLc false [3] (mRng1 (mCons (mVar 1) mNil)) (mgName 3) mYes E2_law_many)
abbrev st_law_many : Stmt := topS 23
def N_law_many : List Str := ["crowd", "size", "again", "k"]
theorem sc_law_many : FnScope N_law_many ["crowd", "size"] (defScope st_law_many) := ⟨rfl, rfl, rfl, by decide +kernel, rfl, by decide +kernel, by decide +kernel⟩
def m_law_many : MS := (sSeq (sIf (mTst (mOp fEq (mCall fLen (mCons (mVar 0) mNil)) (mC (.int 0))))
(sRet (mLst false mNil))
sPass)
(sSeq (sAsg C1_law_many (mgName 2))
(sRet C2_law_many)))
def g_law_many : List T → Option T := runT 4 m_law_many
theorem ok_law_many {f : Addr} {fd : FuncData} (F : Fun K "_law_many" "_law_many" st_law_many f fd) (Tp : Top mg)  : FnOk P w K mg base CX0 1 f fd ["crowd", "size"] (spT ⟨K, w⟩ 2 g_law_many) :=
  fn_ok (N := N_law_many) (k := 0) (mb := m_law_many) F sc_law_many fun cdv A outer s H E hr => by
    have hu := hr.units
    have nd := sc_law_many.nd
    exact ⟨_, (ss_cons (s_if (xt_cmp (o_eq hu) (x_callB c_len rfl Tp.b_len bt_len (xa_cons (xv 0) xa_nil)) x_int)
      (ss_one (s_ret (x_lst false xa_nil)))
      ss_nil)
      (ss_cons (s_set (i := 2) nd (y_lc (own := [("k", 3)]) false rfl nd (xi_rng1 rfl Tp.b_range (xa_cons (xv 1) xa_nil)) (blkOk_by (N := N_law_many) (sc := defScope st_law_many) (by decide +kernel)) (fun _ _ _ _ _ => (xg_name (i := 3) (by exact nd))) (fr_name (vs := [3]) (i := 3)) (fun _ _ _ _ _ => ⟨_, xp_nil⟩) (fun _ _ _ _ _ => ⟨_, (x_bin o_mod (x_bin o_fdiv (xv 3) (x_callB c_len (by rfl) Tp.b_len bt_len (xa_cons (xv 0) xa_nil))) x_int)⟩)))
      (ss_one (s_ret (y_lc (own := [("k", 3)]) false rfl nd (xi_rng1 rfl Tp.b_range (xa_cons (xv 1) xa_nil)) (blkOk_by (N := N_law_many) (sc := defScope st_law_many) (by decide +kernel)) (fun _ _ _ _ _ => (xg_name (i := 3) (by exact nd))) (fr_name (vs := [3]) (i := 3)) (fun _ _ _ _ _ => ⟨_, xp_nil⟩) (fun _ _ _ _ _ => ⟨_, (x_tup (xa_cons (x_bin (o_add false) (x_ix (x_ix (xv 0) (x_bin o_mod (xv 3) (x_callB c_len (by rfl) Tp.b_len bt_len (xa_cons (xv 0) xa_nil)))) x_int) (x_ix (xv 2) (xv 3))) (xa_cons (x_ix (x_ix (xv 0) (x_bin o_mod (xv 3) (x_callB c_len (by rfl) Tp.b_len bt_len (xa_cons (xv 0) xa_nil)))) x_int) xa_nil)))⟩))))))⟩
def E1_law_changed : ME := (mCall (fList true) (mCons (mVar 10) mNil))
def C1_law_changed : ME := (mLc true [10] (mSeq (mVar 1)) (mgName 10) mYes E1_law_changed)
def E2_law_changed : ME := (mLst true (mCons (mOp fIx (mVar 11) (mC (.int 0))) (mCons (mOp fIx (mVar 11) (mC (.int 1))) mNil)))
def C2_law_changed : ME := (mLc true [11] (mSeq (mVar 0)) (mgName 11) mYes E2_law_changed)
def I1_law_changed : MS := (sIf (mTst (mOp fEq (mOp fIx (mVar 2) (mC (.int 0))) (mC (.int 12))))
(sRet (mLst false (mCons (mVar 4) (mCons (mOp (fAdd false) (mVar 3) (mLst false (mCons (mLst false mNil) mNil))) mNil))))
sPass)
def T3_law_changed : MB := (mTst (mOp fGt (mCall fLen (mCons (mOp fIx (mVar 3) (mVar 6)) mNil)) (mC (.int 0))))
def E3_law_changed : ME := (mVar 6)
def C3_law_changed : ME := (mLc false [6] (mRng1 (mCons (mCall fLen (mCons (mVar 0) mNil)) mNil)) (mgName 6) T3_law_changed E3_law_changed)
def I2_law_changed : MS := (sIf (mTst (mOp fEq (mCall fLen (mCons (mVar 5) mNil)) (mC (.int 0))))
(sRet (mLst false (mCons (mVar 4) (mCons (mOp (fAdd false) (mVar 3) (mOp (fMul false) (mLst false (mCons (mLst false (mCons (mC (.int 0)) mNil)) mNil)) (mCall fInt (mCons (mOp fEq (mOp fMod (mOp fIx (mVar 2) (mC (.int 0))) (mC (.int 2))) (mC (.int 0))) mNil)))) mNil))))
sPass)
def I3_law_changed : MS := (sIf (mTst (mOp fEq (mOp fIx (mVar 2) (mC (.int 0))) (mC (.int 0))))
(sAsg (mOp fSub (mOp fIx (mVar 8) (mVar 9)) (mC (.int 1))) (mgSub (mVar 8) (mVar 9)))
sPass)
def I4_law_changed : MS := (sIf (mTst (mOp fEq (mOp fIx (mVar 2) (mC (.int 0))) (mC (.int 1))))
(sAsg (mOp (fAdd false) (mOp fIx (mVar 8) (mVar 9)) (mC (.int 1))) (mgSub (mVar 8) (mVar 9)))
sPass)
def I5_law_changed : MS := (sIf (mTst (mOp fEq (mOp fIx (mVar 2) (mC (.int 0))) (mC (.int 2))))
(sSeq (sAsg (mOp fIx (mVar 3) (mVar 7)) (mgSub (mVar 3) (mVar 6)))
(sAsg (mVar 8) (mgSub (mVar 3) (mVar 7))))
sPass)
def I6_law_changed : MS := (sIf (mTst (mOp fEq (mOp fIx (mVar 2) (mC (.int 0))) (mC (.int 3))))
(sAsg (mOp (fAdd false) (mSl false (mVar 8) mNo (mSome (mVar 9))) (mSl false (mVar 8) (mSome (mOp (fAdd false) (mVar 9) (mC (.int 1)))) mNo)) (mgSub (mVar 3) (mVar 6)))
sPass)
def I7_law_changed : MS := (sIf (mTst (mOp fEq (mOp fIx (mVar 2) (mC (.int 0))) (mC (.int 4))))
(sExp (mBM "list" fAppend (mVar 8) (mCons (mOp (fAdd false) (mOp fIx (mVar 8) (mUn fNeg (mC (.int 1)))) (mC (.int 1))) mNil)))
sPass)
def I8_law_changed : MS := (sIf (mTst (mOp fEq (mOp fIx (mVar 2) (mC (.int 0))) (mC (.int 5))))
(sAsg (mOp (fAdd true) (mSl false (mVar 3) mNo (mSome (mVar 6))) (mSl false (mVar 3) (mSome (mOp (fAdd false) (mVar 6) (mC (.int 1)))) mNo)) (mgName 3))
sPass)
def E4_law_changed : ME := (mOp (fAdd false) (mOp (fAdd false) (mVar 12) (mC (.int 1))) (mOp fIx (mVar 2) (mC (.int 4))))
def C4_law_changed : ME := (mLc false [12] (mSeq (mVar 8)) (mgName 12) mYes E4_law_changed)
def I9_law_changed : MS := (sIf (mTst (mOp fEq (mOp fIx (mVar 2) (mC (.int 0))) (mC (.int 6))))
(sAsg C4_law_changed (mgSub (mVar 3) (mVar 6)))
sPass)
def I10_law_changed : MS := (sIf (mTst (mOp fEq (mOp fIx (mVar 2) (mC (.int 0))) (mC (.int 7))))
(sAsg (mCall fMax (mCons (mC (.int 0)) (mCons (mOp fSub (mOp fIx (mOp fIx (mVar 4) (mVar 6)) (mC (.int 0))) (mC (.int 1))) mNil))) (mgSub (mOp fIx (mVar 4) (mVar 6)) (mC (.int 0))))
sPass)
def I11_law_changed : MS := (sIf (mTst (mOp fEq (mOp fIx (mVar 2) (mC (.int 0))) (mC (.int 8))))
(sAsg (mOp (fAdd false) (mOp fIx (mOp fIx (mVar 4) (mVar 6)) (mC (.int 0))) (mC (.int 1))) (mgSub (mOp fIx (mVar 4) (mVar 6)) (mC (.int 0))))
sPass)
def E5_law_changed : ME := (mOp (fAdd false) (mVar 12) (mC (.int 1)))
def C5_law_changed : ME := (mLc true [12] (mSeq (mVar 10)) (mgName 12) mYes E5_law_changed)
def E6_law_changed : ME := C5_law_changed
def C6_law_changed : ME := (mLc true [10] (mSeq (mVar 3)) (mgName 10) mYes E6_law_changed)
def I12_law_changed : MS := (sIf (mTst (mOp fEq (mOp fIx (mVar 2) (mC (.int 0))) (mC (.int 9))))
(sAsg C6_law_changed (mgName 3))
sPass)
def I13_law_changed : MS := (sIf (mTst (mOp fEq (mOp fIx (mVar 2) (mC (.int 0))) (mC (.int 10))))
(sAsg (mC (.int 5000)) (mgSub (mVar 8) (mUn fNeg (mC (.int 1)))))
sPass)
def I14_law_changed : MS := (sIf (mAnd (mTst (mOp fEq (mOp fIx (mVar 2) (mC (.int 0))) (mC (.int 11)))) (mTst (mOp fGt (mCall fLen (mCons (mVar 8) mNil)) (mC (.int 1)))))
(sAsg (mOp fIx (mVar 8) (mUn fNeg (mC (.int 2)))) (mgSub (mVar 8) (mUn fNeg (mC (.int 1)))))
sPass)
def I15_law_changed : MS := (sIf (mTst (mOp fEq (mOp fIx (mVar 2) (mC (.int 0))) (mC (.int 13))))
(sSeq (sExp (mBM "list" fAppend (mVar 4) (mCons (mCall (fList true) (mCons (mOp fIx (mVar 4) (mVar 6)) mNil)) mNil)))
(sExp (mBM "list" fAppend (mVar 3) (mCons (mCall (fList true) (mCons (mVar 8) mNil)) mNil))))
sPass)
def I16_law_changed : MS := (sIf (mTst (mOp fEq (mOp fIx (mVar 2) (mC (.int 0))) (mC (.int 14))))
(sAsg (mSl false (mVar 8) mNo (mSome (mUn fNeg (mC (.int 1))))) (mgSub (mVar 3) (mVar 6)))
sPass)
abbrev st_law_changed : Stmt := topS 24
def N_law_changed : List Str := ["crowd", "carried", "row", "beats", "letters", "busy", "k", "j", "mine", "at", "one", "letter", "beat"]
theorem sc_law_changed : FnScope N_law_changed ["crowd", "carried", "row"] (defScope st_law_changed) := ⟨rfl, rfl, rfl, by decide +kernel, rfl, by decide +kernel, by decide +kernel⟩
def m_law_changed : MS := (sSeq (sAsg C1_law_changed (mgName 3))
(sSeq (sAsg C2_law_changed (mgName 4))
(sSeq I1_law_changed
(sSeq (sAsg C3_law_changed (mgName 5))
(sSeq I2_law_changed
(sSeq (sAsg (mOp fIx (mVar 5) (mOp fMod (mOp fIx (mVar 2) (mC (.int 1))) (mCall fLen (mCons (mVar 5) mNil)))) (mgName 6))
(sSeq (sAsg (mOp fIx (mVar 5) (mOp fMod (mOp fIx (mVar 2) (mC (.int 2))) (mCall fLen (mCons (mVar 5) mNil)))) (mgName 7))
(sSeq (sAsg (mOp fIx (mVar 3) (mVar 6)) (mgName 8))
(sSeq (sAsg (mOp fMod (mOp fIx (mVar 2) (mC (.int 3))) (mCall fLen (mCons (mVar 8) mNil))) (mgName 9))
(sSeq I3_law_changed
(sSeq I4_law_changed
(sSeq I5_law_changed
(sSeq I6_law_changed
(sSeq I7_law_changed
(sSeq I8_law_changed
(sSeq I9_law_changed
(sSeq I10_law_changed
(sSeq I11_law_changed
(sSeq I12_law_changed
(sSeq I13_law_changed
(sSeq I14_law_changed
(sSeq I15_law_changed
(sSeq I16_law_changed
(sRet (mLst false (mCons (mVar 4) (mCons (mVar 3) mNil)))))))))))))))))))))))))))
def g_law_changed : List T → Option T := runT 13 m_law_changed
theorem ok_law_changed {f : Addr} {fd : FuncData} (F : Fun K "_law_changed" "_law_changed" st_law_changed f fd) (Tp : Top mg)  : FnOk P w K mg base CX0 1 f fd ["crowd", "carried", "row"] (spT ⟨K, w⟩ 3 g_law_changed) :=
  fn_ok (N := N_law_changed) (k := 0) (mb := m_law_changed) F sc_law_changed fun cdv A outer s H E hr => by
    have hu := hr.units
    have nd := sc_law_changed.nd
    exact ⟨_, (ss_cons (s_set (i := 3) nd (y_lc (own := [("one", 10)]) true rfl nd (xi_seq (xv 1)) (blkOk_by (N := N_law_changed) (sc := defScope st_law_changed) (by decide +kernel)) (fun _ _ _ _ _ => (xg_name (i := 10) (by exact nd))) (fr_name (vs := [10]) (i := 10)) (fun _ _ _ _ _ => ⟨_, xp_nil⟩) (fun _ _ _ _ _ => ⟨_, (x_callTy (c_list true) (by rfl) Tp.b_list bt_list (xa_cons (xv 10) xa_nil))⟩)))
      (ss_cons (y_setLc (i := 4) (own := [("letter", 11)]) true rfl nd (xi_seq (xv 0)) (blkOk_by (N := N_law_changed) (sc := defScope st_law_changed) (by decide +kernel)) (fun _ _ _ _ _ => (xg_name (i := 11) (by exact nd))) (fr_name (vs := [11]) (i := 11)) (fun _ _ _ _ _ => ⟨_, xp_nil⟩) (fun _ _ _ _ _ => ⟨_, (x_lst true (xa_cons (x_ix (xv 11) x_int) (xa_cons (x_ix (xv 11) x_int) xa_nil)))⟩) (sw_true rfl rfl rfl (by decide +kernel)))
      (ss_cons (s_if (xt_cmp (o_eq hu) (x_ix (xv 2) x_int) x_int)
      (ss_one (s_ret (x_lst false (xa_cons (xv 4) (xa_cons (x_bin (o_add false) (xv 3) (x_lst false (xa_cons (x_lst false xa_nil) xa_nil))) xa_nil)))))
      ss_nil)
      (ss_cons (y_setLc (i := 5) (own := [("k", 6)]) false rfl nd (xi_rng1 rfl Tp.b_range (xa_cons (x_callB c_len rfl Tp.b_len bt_len (xa_cons (xv 0) xa_nil)) xa_nil)) (blkOk_by (N := N_law_changed) (sc := defScope st_law_changed) (by decide +kernel)) (fun _ _ _ _ _ => (xg_name (i := 6) (by exact nd))) (fr_name (vs := [6]) (i := 6)) (fun _ _ _ _ _ => ⟨_, (xp_one (xt_cmp o_gt (x_callB c_len (by rfl) Tp.b_len bt_len (xa_cons (x_ix (xv 3) (xv 6)) xa_nil)) x_int))⟩) (fun _ _ _ _ _ => ⟨_, (xv 6)⟩) (sw_true rfl rfl rfl (by decide +kernel)))
      (ss_cons (s_if (xt_cmp (o_eq hu) (x_callB c_len rfl Tp.b_len bt_len (xa_cons (xv 5) xa_nil)) x_int)
      (ss_one (s_ret (x_lst false (xa_cons (xv 4) (xa_cons (x_bin (o_add false) (xv 3) (x_bin (o_mul false) (x_lst false (xa_cons (x_lst false (xa_cons x_int xa_nil)) xa_nil)) (x_callTy c_int rfl Tp.b_int bt_int (xa_cons (x_cmp (o_eq hu) (x_bin o_mod (x_ix (xv 2) x_int) x_int) x_int) xa_nil)))) xa_nil)))))
      ss_nil)
      (ss_cons (s_set (i := 6) nd (x_ix (xv 5) (x_bin o_mod (x_ix (xv 2) x_int) (x_callB c_len rfl Tp.b_len bt_len (xa_cons (xv 5) xa_nil)))))
      (ss_cons (s_set (i := 7) nd (x_ix (xv 5) (x_bin o_mod (x_ix (xv 2) x_int) (x_callB c_len rfl Tp.b_len bt_len (xa_cons (xv 5) xa_nil)))))
      (ss_cons (s_set (i := 8) nd (x_ix (xv 3) (xv 6)))
      (ss_cons (s_set (i := 9) nd (x_bin o_mod (x_ix (xv 2) x_int) (x_callB c_len rfl Tp.b_len bt_len (xa_cons (xv 8) xa_nil))))
      (ss_cons (s_if (xt_cmp (o_eq hu) (x_ix (xv 2) x_int) x_int)
      (ss_one (s_asg (x_bin o_sub (x_ix (xv 8) (xv 9)) x_int) (xg_sub (xv 8) (xv 9))))
      ss_nil)
      (ss_cons (s_if (xt_cmp (o_eq hu) (x_ix (xv 2) x_int) x_int)
      (ss_one (s_asg (x_bin (o_add false) (x_ix (xv 8) (xv 9)) x_int) (xg_sub (xv 8) (xv 9))))
      ss_nil)
      (ss_cons (s_if (xt_cmp (o_eq hu) (x_ix (xv 2) x_int) x_int)
      (ss_cons (s_asg (x_ix (xv 3) (xv 7)) (xg_sub (xv 3) (xv 6)))
      (ss_one (s_asg (xv 8) (xg_sub (xv 3) (xv 7)))))
      ss_nil)
      (ss_cons (s_if (xt_cmp (o_eq hu) (x_ix (xv 2) x_int) x_int)
      (ss_one (s_asg (x_bin (o_add false) (x_slice false (xv 8) xo_none (xo_some (xv 9))) (x_slice false (xv 8) (xo_some (x_bin (o_add false) (xv 9) x_int)) xo_none)) (xg_sub (xv 3) (xv 6))))
      ss_nil)
      (ss_cons (s_if (xt_cmp (o_eq hu) (x_ix (xv 2) x_int) x_int)
      (ss_one (s_expr (x_bm m_append (xv 8) (xa_cons (x_bin (o_add false) (x_ix (xv 8) (x_neg x_int)) x_int) xa_nil))))
      ss_nil)
      (ss_cons (s_if (xt_cmp (o_eq hu) (x_ix (xv 2) x_int) x_int)
      (ss_one (s_set (i := 3) nd (x_bin (o_add true) (x_slice false (xv 3) xo_none (xo_some (xv 6))) (x_slice false (xv 3) (xo_some (x_bin (o_add false) (xv 6) x_int)) xo_none))))
      ss_nil)
      (ss_cons (s_if (xt_cmp (o_eq hu) (x_ix (xv 2) x_int) x_int)
      (ss_one (s_asg (y_lc (own := [("beat", 12)]) false rfl nd (xi_seq (xv 8)) (blkOk_by (N := N_law_changed) (sc := defScope st_law_changed) (by decide +kernel)) (fun _ _ _ _ _ => (xg_name (i := 12) (by exact nd))) (fr_name (vs := [12]) (i := 12)) (fun _ _ _ _ _ => ⟨_, xp_nil⟩) (fun _ _ _ _ _ => ⟨_, (x_bin (o_add false) (x_bin (o_add false) (xv 12) x_int) (x_ix (xv 2) x_int))⟩)) (xg_sub (xv 3) (xv 6))))
      ss_nil)
      (ss_cons (s_if (xt_cmp (o_eq hu) (x_ix (xv 2) x_int) x_int)
      (ss_one (s_asg (x_callB (c_max rfl) rfl Tp.b_max bt_max (xa_cons x_int (xa_cons (x_bin o_sub (x_ix (x_ix (xv 4) (xv 6)) x_int) x_int) xa_nil))) (xg_sub (x_ix (xv 4) (xv 6)) x_int)))
      ss_nil)
      (ss_cons (s_if (xt_cmp (o_eq hu) (x_ix (xv 2) x_int) x_int)
      (ss_one (s_asg (x_bin (o_add false) (x_ix (x_ix (xv 4) (xv 6)) x_int) x_int) (xg_sub (x_ix (xv 4) (xv 6)) x_int)))
      ss_nil)
      (ss_cons (s_if (xt_cmp (o_eq hu) (x_ix (xv 2) x_int) x_int)
      (ss_one (s_set (i := 3) nd (y_lc (own := [("one", 10)]) true rfl nd (xi_seq (xv 3)) (blkOk_by (N := N_law_changed) (sc := defScope st_law_changed) (by decide +kernel)) (fun _ _ _ _ _ => (xg_name (i := 10) (by exact nd))) (fr_name (vs := [10]) (i := 10)) (fun _ _ _ _ _ => ⟨_, xp_nil⟩) (fun _ _ _ _ _ => ⟨_, (y_lc (own := [("beat", 12)]) true (by rfl) (by exact nd) (xi_seq (xv 10)) (blkOk_by (by rfl)) (fun _ _ _ _ _ => (xg_name (i := 12) (by exact nd))) (fr_name (vs := [12]) (i := 12)) (fun _ _ _ _ _ => ⟨_, xp_nil⟩) (fun _ _ _ _ _ => ⟨_, (x_bin (o_add false) (xv 12) x_int)⟩))⟩))))
      ss_nil)
      (ss_cons (s_if (xt_cmp (o_eq hu) (x_ix (xv 2) x_int) x_int)
      (ss_one (s_asg x_int (xg_sub (xv 8) (x_neg x_int))))
      ss_nil)
      (ss_cons (s_if (xt_w (xw_and (xt_cmp (o_eq hu) (x_ix (xv 2) x_int) x_int) (xw_and1 (xt_cmp o_gt (x_callB c_len rfl Tp.b_len bt_len (xa_cons (xv 8) xa_nil)) x_int))))
      (ss_one (s_asg (x_ix (xv 8) (x_neg x_int)) (xg_sub (xv 8) (x_neg x_int))))
      ss_nil)
      (ss_cons (s_if (xt_cmp (o_eq hu) (x_ix (xv 2) x_int) x_int)
      (ss_cons (s_expr (x_bm m_append (xv 4) (xa_cons (x_callTy (c_list true) rfl Tp.b_list bt_list (xa_cons (x_ix (xv 4) (xv 6)) xa_nil)) xa_nil)))
      (ss_one (s_expr (x_bm m_append (xv 3) (xa_cons (x_callTy (c_list true) rfl Tp.b_list bt_list (xa_cons (xv 8) xa_nil)) xa_nil)))))
      ss_nil)
      (ss_cons (s_if (xt_cmp (o_eq hu) (x_ix (xv 2) x_int) x_int)
      (ss_one (s_asg (x_slice false (xv 8) xo_none (xo_some (x_neg x_int))) (xg_sub (xv 3) (xv 6))))
      ss_nil)
      (ss_one (s_ret (x_lst false (xa_cons (xv 4) (xa_cons (xv 3) xa_nil))))))))))))))))))))))))))))⟩
def I1_law : MS := (sIf (mTst (mOp fEq (mOp fMod (mOp fIx (mVar 4) (mC (.int 4))) (mC (.int 2))) (mC (.int 0))))
(sAsg (mCallD g_law_stretches (mCons (mOp (fAdd false) (mLst false (mCons (mOp (fAdd false) (mC (.int 4)) (mOp fIx (mVar 4) (mC (.int 7)))) mNil)) (mCallD g_law_digits (mCons (mCallD g_law_cell (mCons (mVar 0) (mCons (mC (.int 1)) mNil))) (mCons (mOp (fMul false) (mLst false (mCons (mC (.int 6)) (mCons (mC (.int 19683)) (mCons (mC (.int 5)) mNil)))) (mC (.int 8))) mNil)))) mNil)) (mgName 5))
sPass)
def I2_law : MS := (sIf (mTst (mOp fEq (mOp fIx (mVar 4) (mC (.int 4))) (mC (.int 7))))
(sAsg (mCallD g_law_many (mCons (mVar 5) (mCons (mOp fIx (mVar 4) (mC (.int 6))) mNil))) (mgName 5))
sPass)
def E1_law : ME := (mCall (fList false) (mCons (mVar 12) mNil))
def C1_law : ME := (mLc false [12] (mSeq (mVar 6)) (mgName 12) mYes E1_law)
def I3_law : MS := (sIf (mOr (mTst (mOp (fIsB true) (mCallD g_is_run (mCons (mVar 5) (mCons (mVar 6) mNil))) (mC (.bl true)))) (mTst (mOp (fIsB true) (mCallD g_is_run (mCons (mVar 5) (mCons C1_law mNil))) (mC (.bl true)))))
(sRet (mC (.bl false)))
sPass)
def I4_law : MS := (sIf (mOr (mTst (mOp (fIsB true) (mCallD g_is_run (mCons (mLst false mNil) (mCons (mLst false mNil) mNil))) (mC (.bl true)))) (mTst (mOp (fIsB true) (mCallD g_is_run (mCons (mLst false mNil) (mCons (mLst false (mCons (mLst false mNil) mNil)) mNil))) (mC (.bl false)))))
(sRet (mC (.bl false)))
sPass)
def I5_law : MS := (sIf (mOr (mAnd (mTru (mVar 9)) (mTst (mOp (fIsB true) (mVar 10) (mC (.bl true))))) (mAnd (mNot (mTru (mVar 9))) (mTst (mOp (fIsB true) (mVar 10) (mC (.bl false))))))
(sRet (mC (.bl false)))
sPass)
def I6_law : MS := (sIf (mOr (mTst (mOp fNe (mOp fIx (mVar 8) (mC (.int 0))) (mOp fIx (mVar 11) (mC (.int 0))))) (mTst (mOp fNe (mOp fIx (mVar 8) (mC (.int 1))) (mOp fIx (mVar 11) (mC (.int 1))))))
(sRet (mC (.bl false)))
sPass)
def L1_law : MS := (sSeq (sAsg (mCallD g_law_changed (mCons (mVar 5) (mCons (mVar 6) (mCons (mOp (fAdd false) (mLst false (mCons (mVar 7) mNil)) (mVar 4)) mNil)))) (mgName 8))
(sSeq (sAsg (mCallD g_law_is_run (mCons (mOp fIx (mVar 8) (mC (.int 0))) (mCons (mOp fIx (mVar 8) (mC (.int 1))) mNil))) (mgName 9))
(sSeq (sAsg (mCallD g_is_run (mCons (mOp fIx (mVar 8) (mC (.int 0))) (mCons (mOp fIx (mVar 8) (mC (.int 1))) mNil))) (mgName 10))
(sSeq I5_law
(sSeq (sAsg (mCallD g_law_changed (mCons (mVar 5) (mCons (mVar 6) (mCons (mOp (fAdd false) (mLst false (mCons (mVar 7) mNil)) (mVar 4)) mNil)))) (mgName 11))
I6_law)))))
def S1_law : MS := (sFor (mRng1 (mCons (mC (.int 15)) mNil)) (mgName 7)
L1_law)
abbrev st_law : Stmt := topS 25
def N_law : List Str := ["script", "net", "near", "row", "drawn", "crowd", "own", "kind", "case", "due", "told", "same", "beats"]
theorem sc_law : FnScope N_law ["script"] (defScope st_law) := ⟨rfl, rfl, rfl, by decide +kernel, rfl, by decide +kernel, by decide +kernel⟩
def m_law : MS := (sSeq (sAsg (mCallD g_law_net (mCons (mCallD g_law_digits (mCons (mCallD g_law_cell (mCons (mVar 0) (mCons (mC (.int 0)) mNil))) (mCons (mOp (fAdd false) (mOp (fAdd false) (mLst false (mCons (mC (.int 8)) mNil)) (mOp (fMul false) (mLst false (mCons (mC (.int 60)) mNil)) (mC (.int 6)))) (mOp (fMul false) (mLst false (mCons (mC (.int 3)) (mCons (mC (.int 42)) (mCons (mC (.int 42)) mNil)))) (mC (.int 4)))) mNil))) (mCons (mC (.int 6)) mNil))) (mgName 1))
(sSeq (sAsg (mCallD g_law_near (mCons (mOp fIx (mVar 1) (mC (.int 0))) (mCons (mOp fIx (mVar 1) (mC (.int 1))) mNil))) (mgName 2))
(sSeq (sAsg (mCallD g_law_digits (mCons (mCallD g_law_cell (mCons (mVar 0) (mCons (mC (.int 1)) mNil))) (mCons (mOp (fAdd false) (mLst false (mCons (mC (.int 9)) (mCons (mC (.int 3)) mNil))) (mOp (fMul false) (mLst false (mCons (mC (.int 5040)) (mCons (mC (.int 49)) (mCons (mC (.int 8)) mNil)))) (mC (.int 8)))) mNil))) (mgName 3))
(sSeq (sAsg (mCallD g_law_digits (mCons (mCallD g_law_cell (mCons (mVar 0) (mCons (mC (.int 3)) mNil))) (mCons (mLst false (mCons (mC (.int 60)) (mCons (mC (.int 60)) (mCons (mC (.int 12)) (mCons (mC (.int 3)) (mCons (mC (.int 8)) (mCons (mC (.int 24)) (mCons (mC (.int 60)) (mCons (mC (.int 5)) mNil))))))))) mNil))) (mgName 4))
(sSeq (sAsg (mCallD g_law_crowd (mCons (mVar 2) (mCons (mOp (fAdd false) (mLst false (mCons (mOp fIx (mLst false (mCons (mC (.int 8)) (mCons (mC (.int 0)) (mCons (mC (.int 1)) (mCons (mC (.int 3)) (mCons (mC (.int 4)) (mCons (mC (.int 5)) (mCons (mC (.int 6)) (mCons (mC (.int 7)) (mCons (mC (.int 8)) mNil)))))))))) (mOp fIx (mVar 3) (mC (.int 0)))) mNil)) (mSl false (mVar 3) (mSome (mC (.int 1))) mNo)) mNil))) (mgName 5))
(sSeq I1_law
(sSeq (sAsg (mCallD g_law_named (mCons (mVar 5) (mCons (mOp fIx (mVar 4) (mC (.int 5))) mNil))) (mgName 5))
(sSeq I2_law
(sSeq (sAsg (mOp fIx (mCallD g_law_run (mCons (mVar 5) (mCons (mC .non) (mCons (mCallD g_law_digits (mCons (mCallD g_law_cell (mCons (mVar 0) (mCons (mC (.int 2)) mNil))) (mCons (mOp (fMul false) (mLst false (mCons (mC (.int 840)) mNil)) (mC (.int 40))) mNil))) mNil)))) (mC (.int 0))) (mgName 6))
(sSeq I3_law
(sSeq I4_law
(sSeq S1_law
(sRet (mC (.bl true)))))))))))))))
def g_law : List T → Option T := runT 13 m_law
theorem ok_law {f : Addr} {fd : FuncData} (F : Fun K "law" "law" st_law f fd) (Tp : Top mg) (D_law_net : DefOk P w K mg base "_law_net" 2 1 g_law_net) (D_law_digits : DefOk P w K mg base "_law_digits" 2 1 g_law_digits) (D_law_cell : DefOk P w K mg base "_law_cell" 2 1 g_law_cell) (D_law_near : DefOk P w K mg base "_law_near" 2 1 g_law_near) (D_law_crowd : DefOk P w K mg base "_law_crowd" 2 3 g_law_crowd) (D_law_stretches : DefOk P w K mg base "_law_stretches" 1 1 g_law_stretches) (D_law_named : DefOk P w K mg base "_law_named" 2 1 g_law_named) (D_law_many : DefOk P w K mg base "_law_many" 2 1 g_law_many) (D_law_run : DefOk P w K mg base "_law_run" 3 1 g_law_run) (D_is_run : DefOk P w K mg base "is_run" 2 10 g_is_run) (D_law_changed : DefOk P w K mg base "_law_changed" 3 1 g_law_changed) (D_law_is_run : DefOk P w K mg base "_law_is_run" 2 1 g_law_is_run) : FnOk P w K mg base CX0 11 f fd ["script"] (spT ⟨K, w⟩ 1 g_law) :=
  fn_ok (N := N_law) (k := 10) (mb := m_law) F sc_law fun cdv A outer s H E hr => by
    have hu := hr.units
    have nd := sc_law.nd
    exact ⟨_, (ss_cons (s_set (i := 1) nd (x_call D_law_net (by exact hr.mono (by omega)) (by rfl) (xa_cons (x_call D_law_digits (by exact hr.mono (by omega)) (by rfl) (xa_cons (x_call D_law_cell (by exact hr.mono (by omega)) (by rfl) (xa_cons (xv 0) (xa_cons x_int xa_nil)) (len_cons (len_cons len_nil))) (xa_cons (x_bin (o_add false) (x_bin (o_add false) (x_lst false (xa_cons x_int xa_nil)) (x_bin (o_mul false) (x_lst false (xa_cons x_int xa_nil)) x_int)) (x_bin (o_mul false) (x_lst false (xa_cons x_int (xa_cons x_int (xa_cons x_int xa_nil)))) x_int)) xa_nil)) (len_cons (len_cons len_nil))) (xa_cons x_int xa_nil)) (len_cons (len_cons len_nil))))
      (ss_cons (s_set (i := 2) nd (x_call D_law_near (by exact hr.mono (by omega)) (by rfl) (xa_cons (x_ix (xv 1) x_int) (xa_cons (x_ix (xv 1) x_int) xa_nil)) (len_cons (len_cons len_nil))))
      (ss_cons (s_set (i := 3) nd (x_call D_law_digits (by exact hr.mono (by omega)) (by rfl) (xa_cons (x_call D_law_cell (by exact hr.mono (by omega)) (by rfl) (xa_cons (xv 0) (xa_cons x_int xa_nil)) (len_cons (len_cons len_nil))) (xa_cons (x_bin (o_add false) (x_lst false (xa_cons x_int (xa_cons x_int xa_nil))) (x_bin (o_mul false) (x_lst false (xa_cons x_int (xa_cons x_int (xa_cons x_int xa_nil)))) x_int)) xa_nil)) (len_cons (len_cons len_nil))))
      (ss_cons (s_set (i := 4) nd (x_call D_law_digits (by exact hr.mono (by omega)) (by rfl) (xa_cons (x_call D_law_cell (by exact hr.mono (by omega)) (by rfl) (xa_cons (xv 0) (xa_cons x_int xa_nil)) (len_cons (len_cons len_nil))) (xa_cons (x_lst false (xa_cons x_int (xa_cons x_int (xa_cons x_int (xa_cons x_int (xa_cons x_int (xa_cons x_int (xa_cons x_int (xa_cons x_int xa_nil))))))))) xa_nil)) (len_cons (len_cons len_nil))))
      (ss_cons (s_set (i := 5) nd (x_call D_law_crowd (by exact hr.mono (by omega)) (by rfl) (xa_cons (xv 2) (xa_cons (x_bin (o_add false) (x_lst false (xa_cons (x_ix (x_lst false (xa_cons x_int (xa_cons x_int (xa_cons x_int (xa_cons x_int (xa_cons x_int (xa_cons x_int (xa_cons x_int (xa_cons x_int (xa_cons x_int xa_nil)))))))))) (x_ix (xv 3) x_int)) xa_nil)) (x_slice false (xv 3) (xo_some x_int) xo_none)) xa_nil)) (len_cons (len_cons len_nil))))
      (ss_cons (s_if (xt_cmp (o_eq hu) (x_bin o_mod (x_ix (xv 4) x_int) x_int) x_int)
      (ss_one (s_set (i := 5) nd (x_call D_law_stretches (by exact hr.mono (by omega)) (by rfl) (xa_cons (x_bin (o_add false) (x_lst false (xa_cons (x_bin (o_add false) x_int (x_ix (xv 4) x_int)) xa_nil)) (x_call D_law_digits (by exact hr.mono (by omega)) (by rfl) (xa_cons (x_call D_law_cell (by exact hr.mono (by omega)) (by rfl) (xa_cons (xv 0) (xa_cons x_int xa_nil)) (len_cons (len_cons len_nil))) (xa_cons (x_bin (o_mul false) (x_lst false (xa_cons x_int (xa_cons x_int (xa_cons x_int xa_nil)))) x_int) xa_nil)) (len_cons (len_cons len_nil)))) xa_nil) (len_cons len_nil))))
      ss_nil)
      (ss_cons (s_set (i := 5) nd (x_call D_law_named (by exact hr.mono (by omega)) (by rfl) (xa_cons (xv 5) (xa_cons (x_ix (xv 4) x_int) xa_nil)) (len_cons (len_cons len_nil))))
      (ss_cons (s_if (xt_cmp (o_eq hu) (x_ix (xv 4) x_int) x_int)
      (ss_one (s_set (i := 5) nd (x_call D_law_many (by exact hr.mono (by omega)) (by rfl) (xa_cons (xv 5) (xa_cons (x_ix (xv 4) x_int) xa_nil)) (len_cons (len_cons len_nil)))))
      ss_nil)
      (ss_cons (s_set (i := 6) nd (x_ix (x_call D_law_run (by exact hr.mono (by omega)) (by rfl) (xa_cons (xv 5) (xa_cons x_non (xa_cons (x_call D_law_digits (by exact hr.mono (by omega)) (by rfl) (xa_cons (x_call D_law_cell (by exact hr.mono (by omega)) (by rfl) (xa_cons (xv 0) (xa_cons x_int xa_nil)) (len_cons (len_cons len_nil))) (xa_cons (x_bin (o_mul false) (x_lst false (xa_cons x_int xa_nil)) x_int) xa_nil)) (len_cons (len_cons len_nil))) xa_nil))) (len_cons (len_cons (len_cons len_nil)))) x_int))
      (ss_cons (s_if (xt_w (xw_or (xt_cmp o_notB (x_call D_is_run (by exact hr.mono (by omega)) (by rfl) (xa_cons (xv 5) (xa_cons (xv 6) xa_nil)) (len_cons (len_cons len_nil))) x_bl) (xw_or1 (xt_cmp o_notB (x_call D_is_run (by exact hr.mono (by omega)) (by rfl) (xa_cons (xv 5) (xa_cons (y_lc (own := [("beats", 12)]) false rfl nd (xi_seq (xv 6)) (blkOk_by (N := N_law) (sc := defScope st_law) (by decide +kernel)) (fun _ _ _ _ _ => (xg_name (i := 12) (by exact nd))) (fr_name (vs := [12]) (i := 12)) (fun _ _ _ _ _ => ⟨_, xp_nil⟩) (fun _ _ _ _ _ => ⟨_, (x_callTy (c_list false) (by rfl) Tp.b_list bt_list (xa_cons (xv 12) xa_nil))⟩)) xa_nil)) (len_cons (len_cons len_nil))) x_bl))))
      (ss_one (s_ret x_bl))
      ss_nil)
      (ss_cons (s_if (xt_w (xw_or (xt_cmp o_notB (x_call D_is_run (by exact hr.mono (by omega)) (by rfl) (xa_cons (x_lst false xa_nil) (xa_cons (x_lst false xa_nil) xa_nil)) (len_cons (len_cons len_nil))) x_bl) (xw_or1 (xt_cmp o_notB (x_call D_is_run (by exact hr.mono (by omega)) (by rfl) (xa_cons (x_lst false xa_nil) (xa_cons (x_lst false (xa_cons (x_lst false xa_nil) xa_nil)) xa_nil)) (len_cons (len_cons len_nil))) x_bl))))
      (ss_one (s_ret x_bl))
      ss_nil)
      (ss_cons (s_for PassesOwn.never rfl (xi_rng1 rfl Tp.b_range (xa_cons x_int xa_nil)) (xg_name (i := 7) nd)
      (ss_cons (s_set (i := 8) nd (x_call D_law_changed (by exact hr.mono (by omega)) (by rfl) (xa_cons (xv 5) (xa_cons (xv 6) (xa_cons (x_bin (o_add false) (x_lst false (xa_cons (xv 7) xa_nil)) (xv 4)) xa_nil))) (len_cons (len_cons (len_cons len_nil)))))
      (ss_cons (s_set (i := 9) nd (x_call D_law_is_run (by exact hr.mono (by omega)) (by rfl) (xa_cons (x_ix (xv 8) x_int) (xa_cons (x_ix (xv 8) x_int) xa_nil)) (len_cons (len_cons len_nil))))
      (ss_cons (s_set (i := 10) nd (x_call D_is_run (by exact hr.mono (by omega)) (by rfl) (xa_cons (x_ix (xv 8) x_int) (xa_cons (x_ix (xv 8) x_int) xa_nil)) (len_cons (len_cons len_nil))))
      (ss_cons (s_if (xt_w (xw_or (xt_w (xw_and (xt_tru (xv 9)) (xw_and1 (xt_cmp o_notB (xv 10) x_bl)))) (xw_or1 (xt_w (xw_and (xt_not (xt_tru (xv 9))) (xw_and1 (xt_cmp o_notB (xv 10) x_bl)))))))
      (ss_one (s_ret x_bl))
      ss_nil)
      (ss_cons (s_set (i := 11) nd (x_call D_law_changed (by exact hr.mono (by omega)) (by rfl) (xa_cons (xv 5) (xa_cons (xv 6) (xa_cons (x_bin (o_add false) (x_lst false (xa_cons (xv 7) xa_nil)) (xv 4)) xa_nil))) (len_cons (len_cons (len_cons len_nil)))))
      (ss_one (s_if (xt_w (xw_or (xt_cmp (o_ne hu) (x_ix (xv 8) x_int) (x_ix (xv 11) x_int)) (xw_or1 (xt_cmp (o_ne hu) (x_ix (xv 8) x_int) (x_ix (xv 11) x_int)))))
      (ss_one (s_ret x_bl))
      ss_nil))))))))
      (ss_one (s_ret x_bl))))))))))))))⟩
end
end My

namespace My
open PySem L2 G
theorem bmi {j : Int} (h : -18446744073709551615 ≤ j ∧ j ≤ 18446744073709551615) : inB BMn j = true := inB_of (by unfold BMn; omega)
theorem dvi {j : Int} (h : -1073741823 ≤ j ∧ j ≤ 1073741823) : inB 1073741823 j = true := inB_of (by omega)
theorem p_cell (xs : List Int) (k : Nat) (hk : k ≤ 1000) : ∃ c : Int, g_law_cell [.scr (xs.map .int), .int k] = some (.int c) := by
  by_cases h : k < xs.length
  · have h1 : decide ((k : Int) < ((xs.map T.int).length : Nat)) = true := by rw [List.length_map]; simp [h]
    refine ⟨xs[k], run_cl (ρ := [some (.cl _), some (.cl _), none, none]) (cs := []) rfl ?_⟩
    simp only [m_law_cell, ↓bindM, ev, ef, ↓reduceIte, el, h1, gx_nat, List.getElem?_map, List.getElem?_eq_getElem h, Option.map_some]
  · have h1 : decide ((k : Int) < ((xs.map T.int).length : Nat)) = false := by rw [List.length_map]; simp; omega
    have hl := for_ix (mg := mgName 3) (mb := L1_law_cell) (ts := xs.map T.int) (fun _ ρ cs => ∃ s o, 0 ≤ s ∧ s < 1000003 ∧ cs = [] ∧ ρ = [some (.cl (.scr (xs.map T.int))), some (.cl (.int k)), some (.cl (.int s)), o])
      (fun i t ρ cs ht ⟨s, o, h0, h1, h2, h3⟩ => by
        subst h2 h3
        rw [List.getElem?_map] at ht
        obtain ⟨x, hx, rfl⟩ := Option.map_eq_some_iff.mp ht
        have b1 := bmi (j := 31) (by decide)
        have b2 : (0 : Int) < 1000003 := by decide
        refine ⟨_, _, ?_, (s * 31 + x % 1000003) % 1000003, some (.cl (.int x)), by omega, by omega, rfl, rfl⟩
        simp only [stepF, L1_law_cell, ↓bindM, ev, ef, ↓reduceIte, el, b1, b2]) (ρ := [some (.cl (.scr (xs.map T.int))), some (.cl (.int k)), some (.cl (.int 17)), none]) (cs := []) ⟨17, none, by decide, by decide, rfl, rfl⟩
    obtain ⟨ρ', cs', e, s, o, h0, h2, rfl, rfl⟩ := hl
    have b1 := bmi (j := 69621) (by decide)
    have b2 := bmi (j := s + 7) (by omega)
    have b3 : (0 : Int) < 2147483647 := by decide
    replace e := sfor_ok (mi := mSeq (mVar 0)) (cs := []) (by simp only [↓bindM, ev, ef, el]) e
    rw [← S1_law_cell] at e
    refine ⟨(s + 7) * (k + 3) * 69621 % 2147483647, run_cl (ρ := [some (.cl _), some (.cl _), none, none]) (cs := []) rfl ?_⟩
    simp only [m_law_cell, ↓bindM, ev, ef, ↓reduceIte, el, h1, e, b1, b2, b3]
end My

namespace My
open PySem L2 G
def digW (row : List Int) : List W := (row.map T.int).map W.cl
theorem digW_snoc (row : List Int) (x : Int) : digW row ++ [W.cl (.int x)] = digW (row ++ [x]) := by simp [digW]
theorem digW_len (row : List Int) : (digW row).length = row.length := by simp [digW]
/-- the digits so far -/
def Dig (sizes : List Int) (i : Nat) (row : List Int) : Prop := row.length = i ∧ ∀ j, j < i → ∃ d s, row[j]? = some d ∧ sizes[j]? = some s ∧ 0 ≤ d ∧ d < s
theorem Dig.snoc {sizes : List Int} {i : Nat} {row : List Int} (h : Dig sizes i row) {s d : Int} (hs : sizes[i]? = some s) (h0 : 0 ≤ d) (h1 : d < s) : Dig sizes (i + 1) (row ++ [d]) := by
  have hl := h.1
  refine ⟨by simp [hl], fun j hj => ?_⟩
  by_cases e : j < i
  · obtain ⟨d', s', a, b, c⟩ := h.2 j e
    exact ⟨d', s', by rw [List.getElem?_append_left (by omega)]; exact a, b, c⟩
  · have : j = i := by omega
    subst this
    refine ⟨d, s, ?_, hs, h0, h1⟩
    rw [List.getElem?_append_right (by omega), hl]; simp
theorem p_digits (c : Int) (sizes : List Int) (hs : ∀ s ∈ sizes, 0 < s ∧ s < 1073741824) (hl : sizes.length ≤ 1000) : ∃ row : List Int, Dig sizes sizes.length row ∧ g_law_digits [.int c, .lst (sizes.map .int)] = some (.lst (row.map .int)) := by
  have ten : ((10 : Int) ^ (18 : Int).toNat) = 1000000000000000000 := by decide
  have c1 : (0 : Int) ≤ 18 := by decide
  have c2 : inB 1000000 18 = true := by decide
  have c3 := bmi (j := 10) (by decide)
  have z : (0 : Nat) ≤ LIM := Nat.zero_le _
  have fin : ∀ row : List Int, frz 8 (.pt 0) [.lst (digW row)] = some (T.lst (row.map .int), [.fz (T.lst (row.map .int))]) := fun row => by
    simp only [ep, digW, frzs_cls, el]
  by_cases hc : (1000000000000000000 : Int) ≤ c
  · have hc' : decide ((1000000000000000000 : Int) ≤ c) = true := decide_eq_true hc
    obtain ⟨ρ', cs', e, rest, o, row, hd, rfl, rfl⟩ := for_ix (mg := mgName 4) (mb := L1_law_digits) (ts := sizes.map T.int) (fun i ρ cs => ∃ rest o row, Dig sizes i row ∧ cs = [.lst (digW row)] ∧ ρ = [some (.cl (.int c)), some (.cl (.lst (sizes.map T.int))), some (.pt 0), some (.cl (.int rest)), o, none, none, none])
      (fun i t ρ cs ht ⟨rest, o, row, hd, h2, h3⟩ => by
        subst h2 h3
        rw [List.getElem?_map] at ht
        obtain ⟨x, hx, rfl⟩ := Option.map_eq_some_iff.mp ht
        obtain ⟨x0, x1⟩ := hs x (List.mem_of_getElem? hx)
        have xx := dvi (j := x) (by omega)
        have hi : i < sizes.length := (List.getElem?_eq_some_iff.mp hx).1
        have lim : row.length < LIM := by have := hd.1; unfold LIM; omega
        refine ⟨_, _, ?_, rest / x, some (.cl (.int x)), row ++ [rest % x], hd.snoc hx (Int.emod_nonneg _ (by omega)) (Int.emod_lt_of_pos _ x0), rfl, rfl⟩
        simp only [stepF, L1_law_digits, ↓bindM, ev, ef, ↓reduceIte, el, ep, xx, x0, digW_len, lim, digW_snoc])
      (ρ := [some (.cl (.int c)), some (.cl (.lst (sizes.map T.int))), some (.pt 0), some (.cl (.int (c - 1000000000000000000))), none, none, none, none]) (cs := [.lst (digW [])]) ⟨_, none, [], ⟨rfl, fun _ h => by omega⟩, rfl, rfl⟩
    rw [List.length_map] at hd
    refine ⟨row, hd, run_rt (ρ := [some (.cl _), some (.cl _), none, none, none, none, none, none]) rfl ?_ (fin row)⟩
    simp only [digW, List.map_nil] at e
    replace e := sfor_ok (mi := mSeq (mVar 1)) (cs := [Cell.lst []]) (by simp only [↓bindM, ev, ef, el]) e
    rw [← S1_law_digits] at e
    simp only [m_law_digits, ↓bindM, ev, ef, ↓reduceIte, el, ep, z, c1, c2, c3, ten, hc', e, List.nil_append]
    rfl
  · have hc' : decide ((1000000000000000000 : Int) ≤ c) = false := decide_eq_false hc
    have rl : inB 3999999999999 ((sizes.map T.int).length : Int) = true := inB_of (by rw [List.length_map]; omega)
    obtain ⟨ρ', cs', e, seed, o1, o2, row, h0, h1, hd, rfl, rfl⟩ := for_rng0 (mg := mgName 6) (mb := L2_law_digits) (n := sizes.length) (fun i ρ cs => ∃ seed o1 o2 row, 0 ≤ seed ∧ seed < 2147483647 ∧ Dig sizes i row ∧ cs = [.lst (digW row)] ∧ ρ = [some (.cl (.int c)), some (.cl (.lst (sizes.map T.int))), some (.pt 0), some (.cl (.int c)), none, some (.cl (.int seed)), o1, o2])
      (fun i ρ cs hi ⟨seed, o1, o2, row, h0, h1, hd, h2, h3⟩ => by
        subst h2 h3
        obtain ⟨x0, x1⟩ := hs sizes[i] (List.getElem_mem hi)
        have lim : row.length < LIM := by have := hd.1; unfold LIM; omega
        have b1 := bmi (j := 48271) (by omega)
        have b2 := bmi (j := 974711) (by omega)
        have m1 : (0 : Int) < 2147483647 := by omega
        have m2 : (0 : Int) < 2147483629 := by omega
        have d1 := dvi (j := 65537) (by omega)
        have e1 : (0 : Int) < 65537 := by omega
        have d2 := dvi (j := 19) (by omega)
        have e2 : (0 : Int) < 19 := by omega
        generalize hs2 : (seed * 48271 + 974711 * ((i : Nat) : Int) + 12345) % 2147483647 = s2
        have s20 : 0 ≤ s2 := by rw [← hs2]; exact Int.emod_nonneg _ (by omega)
        have s21 : s2 < 2147483647 := by rw [← hs2]; exact Int.emod_lt_of_pos _ (by omega)
        have b3 := bmi (j := s2) (by omega)
        have ix : ((sizes.map T.int))[i]? = some (T.int sizes[i]) := by rw [List.getElem?_map, List.getElem?_eq_getElem hi]; rfl
        refine ⟨_, _, ?_, s2, some (.cl (.int ((i : Nat) : Int))), some (.cl (.int (s2 * (s2 / 65537 + 3) % 2147483629))), row ++ [s2 * (s2 / 65537 + 3) % 2147483629 / 19 % sizes[i]], s20, s21, hd.snoc (List.getElem?_eq_getElem hi) (Int.emod_nonneg _ (by omega)) (Int.emod_lt_of_pos _ x0), rfl, rfl⟩
        simp only [stepF, L2_law_digits, ↓bindM, ev, ef, ↓reduceIte, el, ep, b1, b2, b3, m1, m2, d1, d2, e1, e2, hs2, gx_nat, ix, x0, digW_len, lim, digW_snoc])
      (ρ := [some (.cl (.int c)), some (.cl (.lst (sizes.map T.int))), some (.pt 0), some (.cl (.int c)), none, some (.cl (.int (c % 2147483629))), none, none]) (cs := [.lst (digW [])]) ⟨c % 2147483629, none, none, [], Int.emod_nonneg _ (by omega), Int.lt_of_lt_of_le (Int.emod_lt_of_pos _ (by omega)) (by omega), ⟨rfl, fun _ h => by omega⟩, rfl, rfl⟩
    refine ⟨row, hd, run_rt (ρ := [some (.cl _), some (.cl _), none, none, none, none, none, none]) rfl ?_ (fin row)⟩
    have m2 : (0 : Int) < 2147483629 := by omega
    have ln : (((sizes.map T.int).length : Int)).toNat = sizes.length := by rw [List.length_map]; rfl
    simp only [digW, List.map_nil] at e
    replace e := sfor_ok (mi := (mRng1 (mCons (mCall fLen (mCons (mVar 1) mNil)) mNil))) (cs := [Cell.lst []]) (by simp only [↓bindM, ev, ef, ↓reduceIte, el, rl, ln]) e
    rw [← S2_law_digits] at e
    simp only [m_law_digits, ↓bindM, ev, ef, ↓reduceIte, el, ep, z, c1, c2, c3, ten, hc', m2, e, List.nil_append]
    rfl
end My

namespace My
open PySem L2 G
theorem gx_in {α : Type} {xs : List α} {r : Int} (h0 : 0 ≤ r) (h1 : r < xs.length) : ∃ x, atI xs r = some x ∧ x ∈ xs := by
  obtain ⟨q, rfl⟩ := Int.eq_ofNat_of_zero_le h0
  have hq : q < xs.length := by omega
  exact ⟨xs[q], by rw [gx_nat, List.getElem?_eq_getElem hq], List.getElem_mem hq⟩
theorem perm_erase {α : Type} : ∀ (l : List α) (q : Nat) (h : q < l.length), (l[q] :: l.eraseIdx q).Perm l
  | a :: l, 0, _ => List.Perm.refl _
  | a :: l, q + 1, h => by
    have := perm_erase l q (by simpa using h)
    simp only [List.getElem_cons_succ, List.eraseIdx_cons_succ]
    exact (List.Perm.swap _ _ _).trans (List.Perm.cons a this)
/-- 0, 1, .. -/
def iotaI (n : Nat) : List Int := (List.range n).map fun (i : Nat) => (i : Int)
theorem rangeT0 (n : Nat) : rangeT 0 n = (iotaI n).map T.int := by simp [rangeT, iotaI]
theorem iotaI_mem {n : Nat} {x : Int} : x ∈ iotaI n ↔ 0 ≤ x ∧ x < n := by
  simp only [iotaI, List.mem_map, List.mem_range]
  constructor
  · rintro ⟨i, hi, rfl⟩; omega
  · intro ⟨h0, h1⟩; exact ⟨x.toNat, by omega, by omega⟩
theorem iotaI_nodup (n : Nat) : (iotaI n).Nodup := by
  unfold iotaI List.Nodup
  rw [List.pairwise_map]
  exact (List.nodup_range (n := n)).imp fun h e => h (by omega)
theorem iotaI_len (n : Nat) : (iotaI n).length = n := by simp [iotaI]
/-- joined by links -/
inductive Con (L : List (Int × Int)) : Int → Int → Prop
  | refl (a : Int) : Con L a a
  | fwd {a b c : Int} : (a, b) ∈ L → Con L b c → Con L a c
  | bwd {a b c : Int} : (b, a) ∈ L → Con L b c → Con L a c
theorem Con.trans {L : List (Int × Int)} {a b c : Int} (h : Con L a b) (h' : Con L b c) : Con L a c := by
  induction h with
  | refl => exact h'
  | fwd m _ ih => exact .fwd m (ih h')
  | bwd m _ ih => exact .bwd m (ih h')
theorem Con.symm {L : List (Int × Int)} {a b : Int} (h : Con L a b) : Con L b a := by
  induction h with
  | refl => exact .refl _
  | fwd m _ ih => exact ih.trans (.bwd m (.refl _))
  | bwd m _ ih => exact ih.trans (.fwd m (.refl _))
theorem Con.mono {L L' : List (Int × Int)} (s : ∀ p ∈ L, p ∈ L') {a b : Int} (h : Con L a b) : Con L' a b := by
  induction h with
  | refl => exact .refl _
  | fwd m _ ih => exact .fwd (s _ m) ih
  | bwd m _ ih => exact .bwd (s _ m) ih
def linkW (ls : List (Int × Int)) : List W := (ls.map pT).map W.cl
theorem linkW_snoc (ls : List (Int × Int)) (x y : Int) : linkW ls ++ [W.cl (.tup [.int x, .int y])] = linkW (ls ++ [(x, y)]) := by simp [linkW, pT]
theorem linkW_len (ls : List (Int × Int)) : (linkW ls).length = ls.length := by simp [linkW]
theorem digW_map (xs : List Int) : (xs.map T.int).map W.cl = digW xs := rfl
theorem digW_get {xs : List Int} {q : Nat} {x : Int} (h : xs[q]? = some x) : (digW xs)[q]? = some (W.cl (.int x)) := by simp [digW, h]
theorem digW_erase (xs : List Int) (q : Nat) : (digW xs).eraseIdx q = digW (xs.eraseIdx q) := by
  induction xs generalizing q with
  | nil => rfl
  | cons x xs ih => cases q with
    | zero => rfl
    | succ q => exact congrArg (List.cons _) (ih q)
theorem ints_get {xs : List Int} {q : Nat} {x : Int} (h : xs[q]? = some x) : (xs.map T.int)[q]? = some (T.int x) := by simp [h]

/-- a good list of links -/
def Lks (n : Nat) (L : List (Int × Int)) : Prop := ∀ p ∈ L, 0 ≤ p.1 ∧ p.1 < p.2 ∧ p.2 < n
theorem Lks.snoc {n : Nat} {L : List (Int × Int)} (h : Lks n L) {a b : Int} (ha : 0 ≤ a) (ha' : a < n) (hb : 0 ≤ b) (hb' : b < n) (ne : a ≠ b) : Lks n (L ++ [((if b < a then b else a), (if b > a then b else a))]) := by
  intro p hp
  rcases List.mem_append.mp hp with hp | hp
  · exact h p hp
  · have : p = ((if b < a then b else a), (if b > a then b else a)) := by simpa using hp
    subst this
    dsimp only
    split <;> split <;> omega
theorem con_snoc {L : List (Int × Int)} {a b : Int} : Con (L ++ [((if b < a then b else a), (if b > a then b else a))]) a b := by
  have hm : ((if b < a then b else a), (if b > a then b else a)) ∈ L ++ [((if b < a then b else a), (if b > a then b else a))] := by simp
  rcases Int.lt_trichotomy a b with h | h | h
  · rw [if_neg (by omega), if_pos (by omega)] at hm ⊢
    exact .fwd hm (.refl _)
  · subst h; exact .refl _
  · rw [if_pos (by omega), if_neg (by omega)] at hm ⊢
    exact .bwd hm (.refl _)
end My

namespace My
open PySem L2 G
theorem frzs_dig (n : Nat) (xs : List Int) (cs : Cs) : frzs (frz n) (digW xs) cs = some (xs.map T.int, cs) := frzs_cls n _ cs
theorem rgi {j : Int} (h : -3999999999999 ≤ j ∧ j ≤ 3999999999999) : inB 3999999999999 j = true := inB_of (by omega)
theorem ppi {j : Int} (h : -1000000 ≤ j ∧ j ≤ 1000000) : inB 1000000 j = true := inB_of (by omega)
/-- what the law draws a net from -/
structure NetRow (row : List Int) : Prop where
  len : row.length = 19
  r0 : ∃ x, row[0]? = some x ∧ 0 ≤ x ∧ x < 8
  rk : ∀ k, k < 19 → ∃ x, row[k]? = some x ∧ 0 ≤ x ∧ x < 61
/-- the names: all nodes in some order -/
structure Nms (n : Nat) (names : List Int) : Prop where
  perm : names.Perm (iotaI n)
theorem Nms.len {n : Nat} {names : List Int} (h : Nms n names) : names.length = n := by rw [h.perm.length_eq, iotaI_len]
theorem Nms.get {n : Nat} {names : List Int} (h : Nms n names) {k : Nat} (hk : k < n) : ∃ x, names[k]? = some x ∧ 0 ≤ x ∧ x < n := by
  have hl := h.len
  have := h.perm.mem_iff.mp (List.getElem_mem (show k < names.length by omega))
  exact ⟨names[k], List.getElem?_eq_getElem _, iotaI_mem.mp this⟩
theorem Nms.ne {n : Nat} {names : List Int} (h : Nms n names) {i j : Nat} {x y : Int} (hx : names[i]? = some x) (hy : names[j]? = some y) (ne : i ≠ j) : x ≠ y := by
  have nd : names.Nodup := h.perm.nodup_iff.mpr (iotaI_nodup n)
  rintro rfl
  have h1 := (List.getElem?_eq_some_iff.mp hx)
  have h2 := (List.getElem?_eq_some_iff.mp hy)
  obtain ⟨l1, e1⟩ := h1
  obtain ⟨l2, e2⟩ := h2
  rcases Nat.lt_or_gt_of_ne ne with h | h
  · exact List.pairwise_iff_getElem.mp nd i j l1 l2 h (e1.trans e2.symm)
  · exact List.pairwise_iff_getElem.mp nd j i l2 l1 h (e2.trans e1.symm)
theorem p_net_names {row : List Int} (hr : NetRow row) {n : Nat} (hn : n ≤ 7) (u : W) : ∃ names, Nms n names ∧
    C2_law_net [some (.cl (.lst (row.map T.int))), some u, some (.cl (.int n)), some (.pt 0), none, none, none, none, none] [.lst (digW (iotaI n))] = .ok (.cl (.lst (names.map T.int))) [.lst []] := by
  have hl : (rangeT 0 n).length ≤ LIM := by rw [rangeT_len]; unfold LIM; omega
  obtain ⟨ws, cs', e, names, left, rfl, rfl, hp, hlen⟩ := lc_ix (mg := mgName 6) (me := E2_law_net) (ρ := [some (.cl (.lst (row.map T.int))), some u, some (.cl (.int n)), some (.pt 0), none, none, none, none, none]) (ts := rangeT 0 n)
    (fun i acc cs => ∃ names left, acc = digW names ∧ cs = [.lst (digW left)] ∧ (names ++ left).Perm (iotaI n) ∧ names.length = i)
    (fun i t acc cs ht ⟨names, left, e1, e2, hp, hlen⟩ => by
      subst e1 e2
      obtain ⟨hi, rfl⟩ := rangeT_get ht
      have hll : left.length = n - i := by
        have := hp.length_eq
        rw [List.length_append, iotaI_len] at this
        omega
      obtain ⟨x, hx, x0, x1⟩ := hr.rk i (by omega)
      have lp : (0 : Int) < (left.length : Nat) := by omega
      have dv := dvi (j := if (i : Int) > 1 then (i : Int) else 1) (by split <;> omega)
      have d0 : (0 : Int) < if (i : Int) > 1 then (i : Int) else 1 := by split <;> omega
      obtain ⟨q, hq⟩ := Int.eq_ofNat_of_zero_le (Int.emod_nonneg (x / (if (i : Int) > 1 then (i : Int) else 1)) (show (left.length : Int) ≠ 0 by omega))
      have hq1 := Int.emod_lt_of_pos (x / (if (i : Int) > 1 then (i : Int) else 1)) lp
      rw [hq] at hq1
      have hql : q < left.length := by omega
      have pq := ppi (j := (q : Int)) (by omega)
      refine ⟨_, _, W.cl (.int left[q]), [.lst (digW (left.eraseIdx q))], rfl, ?_, names ++ [left[q]], left.eraseIdx q, (digW_snoc _ _), rfl, ?_, by simp [hlen]⟩
      · simp only [E2_law_net, ↓bindM, ev, ef, ↓reduceIte, el, ep, Int.zero_add, gx_nat, ints_get hx, digW_len, d0, dv, lp, hq, pq, gx_ix hql, digW_get (List.getElem?_eq_getElem hql), digW_erase]
      · rw [List.append_assoc]
        exact (List.Perm.append_left _ (perm_erase left q hql)).trans hp) (acc := []) (cs := [.lst (digW (iotaI n))]) (by simpa using hl) ⟨[], iotaI n, rfl, rfl, List.Perm.refl _, rfl⟩
  rw [rangeT_len] at hlen
  have hll : left = [] := by
    have := hp.length_eq
    rw [List.length_append, iotaI_len, hlen] at this
    exact List.eq_nil_of_length_eq_zero (by omega)
  subst hll
  rw [List.append_nil] at hp
  refine ⟨names, ⟨hp⟩, ?_⟩
  have rn := rgi (j := (n : Int)) (by omega)
  unfold C2_law_net mLc
  simp only [↓bindM, ev, ef, ↓reduceIte, el, rn, Int.toNat_natCast, e, frzs_dig]
  rfl
theorem lim2 : ((0 + 1 + 1 : Nat) ≤ LIM) = True := by unfold LIM; decide
theorem fresh_links (n : Nat) : Lks n [] := fun p hp => by cases hp
theorem p_net (row : List Int) (hr : NetRow row) {up : Nat} (h1 : 1 ≤ up) (h2 : up ≤ 24) : ∃ (n : Nat) (L : List (Int × Int)), 1 ≤ n ∧ n ≤ up ∧ n ≤ 7 ∧ Lks n L ∧ (∀ u v : Int, 0 ≤ u → u < n → 0 ≤ v → v < n → Con L u v) ∧
    L.length ≤ 10 ∧ g_law_net [.lst (row.map .int), .int up] = some (.lst [.int n, .lst (L.map pT)]) := by
  obtain ⟨r0, hr0, r00, r01⟩ := hr.r0
  obtain ⟨t, ht, hm⟩ := gx_in (xs := [T.int 3, .int 4, .int 5, .int 6, .int 7, .int 2, .int 4, .int 1]) r00 r01
  obtain ⟨m, rfl, m1, m7⟩ : ∃ m : Nat, t = .int m ∧ 1 ≤ m ∧ m ≤ 7 := by
    simp only [List.mem_cons, List.not_mem_nil, or_false] at hm
    rcases hm with h | h | h | h | h | h | h | h
    · exact ⟨3, h, by omega, by omega⟩
    · exact ⟨4, h, by omega, by omega⟩
    · exact ⟨5, h, by omega, by omega⟩
    · exact ⟨6, h, by omega, by omega⟩
    · exact ⟨7, h, by omega, by omega⟩
    · exact ⟨2, h, by omega, by omega⟩
    · exact ⟨4, h, by omega, by omega⟩
    · exact ⟨1, h, by omega, by omega⟩
  obtain ⟨n, hn⟩ : ∃ n : Nat, (if (m : Int) < up then (m : Int) else up) = n := ⟨if m < up then m else up, by split <;> split <;> omega⟩
  have n1 : 1 ≤ n ∧ n ≤ up ∧ n ≤ 7 := by split at hn <;> omega
  obtain ⟨names, hN, eC2⟩ := p_net_names hr n1.2.2 (.cl (.int up))
  have rn := rgi (j := (n : Int)) (by omega)
  have eC1 : ∀ o1 o2 o3 o4 o5 o6, C1_law_net [some (.cl (.lst (row.map T.int))), some (.cl (.int up)), some (.cl (.int n)), o1, o2, o3, o4, o5, o6] [] = .ok (.pt 0) [.lst (digW (iotaI n))] := fun o1 o2 o3 o4 o5 o6 => by
    have := mlc_own (vs := [6]) (mi := mRng1 (mCons (mVar 2) mNil)) (mg := mgName 6) (mt := mYes) (me := E1_law_net) (ρ := [some (.cl (.lst (row.map T.int))), some (.cl (.int up)), some (.cl (.int n)), o1, o2, o3, o4, o5, o6]) (cs := []) (cs1 := []) (ts := rangeT 0 n) id (fun _ => true)
      (by simp only [↓bindM, ev, ef, ↓reduceIte, el, rn, Int.toNat_natCast]) (by rw [rangeT_len]; unfold LIM; omega) (fun t _ => ⟨_, rfl, rfl, fun _ => by simp only [E1_law_net, ev, el, id]⟩)
    rw [filter_yes, List.map_id, rangeT0] at this
    exact this
  -- the tree
  obtain ⟨n', hn'⟩ : ∃ n', n = n' + 1 := ⟨n - 1, by omega⟩
  obtain ⟨ρ1, cs1, e1, L1, a1, b1, rfl, rfl, hL1, hc1, hl1⟩ := for_rng (mg := mgName 6) (mb := L1_law_net) (lo := 1) (n := n')
    (fun i ρ cs => ∃ L a b, cs = [.lst [], .lst (linkW L)] ∧ ρ = [some (.cl (.lst (row.map T.int))), some (.cl (.int up)), some (.cl (.int n)), some (.pt 0), some (.cl (.lst (names.map T.int))), some (.pt 1), a, b, none] ∧ Lks n L ∧
      (∀ j x y, j ≤ i → names[j]? = some x → names[0]? = some y → Con L x y) ∧ L.length = i)
    (fun i ρ cs hi ⟨L, a, b, h1, h2, hL, hc, hl⟩ => by
      subst h1 h2
      obtain ⟨x, hx, x0, x1⟩ := hr.rk (1 + i) (by omega)
      have ip : (0 : Int) < 1 + (i : Int) := by omega
      obtain ⟨q, hq⟩ := Int.eq_ofNat_of_zero_le (Int.emod_nonneg x (show (1 + (i : Int)) ≠ 0 by omega))
      have hq1 := Int.emod_lt_of_pos x ip
      rw [hq] at hq1
      obtain ⟨u, hu, u0, u1⟩ := hN.get (k := q) (by omega)
      obtain ⟨v, hv, v0, v1⟩ := hN.get (k := 1 + i) (by omega)
      have ne := hN.ne hu hv (by omega)
      have c1 : (1 + (i : Int)) = ((1 + i : Nat) : Int) := by omega
      have lim : L.length < LIM := by unfold LIM; omega
      refine ⟨_, _, ?_, L ++ [((if v < u then v else u), (if v > u then v else u))], some (.cl (.int (1 + (i : Int)))), some (.cl (.int u)), rfl, rfl, hL.snoc u0 u1 v0 v1 ne, ?_, by simp [hl]⟩
      · rw [c1] at hq ip ⊢
        simp only [stepF, L1_law_net, ↓bindM, ev, ef, ↓reduceIte, el, ep, gx_nat, ints_get hx, hq, ip, ints_get hu, ints_get hv, linkW_len, lim, linkW_snoc, lim2]
      · intro j x y hj h3 h4
        have mono : ∀ p ∈ L, p ∈ L ++ [((if v < u then v else u), (if v > u then v else u))] := fun p hp => List.mem_append_left _ hp
        by_cases hji : j ≤ i
        · exact (hc j x y hji h3 h4).mono mono
        · have : j = 1 + i := by omega
          subst this
          rw [hv] at h3; cases h3
          exact con_snoc.symm.trans ((hc q u y (by omega) hu h4).mono mono))
    (ρ := [some (.cl (.lst (row.map T.int))), some (.cl (.int up)), some (.cl (.int n)), some (.pt 0), some (.cl (.lst (names.map T.int))), some (.pt 1), none, none, none]) (cs := [.lst [], .lst (linkW [])])
    ⟨[], none, none, rfl, rfl, fresh_links n, fun j x y hj h3 h4 => by
      have : j = 0 := by omega
      subst this; rw [h3] at h4; cases h4; exact .refl _, rfl⟩
  have r1 : inB 3999999999999 1 = true := by decide
  have tn : ((n : Int) - 1).toNat = n' := by omega
  have E1 := sfor_ok (mi := mRng2 (mCons (mC (.int 1)) (mCons (mVar 2) mNil))) (cs := [.lst [], .lst (linkW [])]) (by simp only [↓bindM, ev, ef, ↓reduceIte, el, rn, r1, tn]) e1
  rw [← S1_law_net] at E1
  -- more links
  obtain ⟨ρ2, cs2, e2, L2, k2, a2, b2, rfl, rfl, hL2, hs2, hl2⟩ := for_rng0 (mg := mgName 6) (mb := L2_law_net) (n := 4)
    (fun i ρ cs => ∃ L k a b, cs = [.lst [], .lst (linkW L)] ∧ ρ = [some (.cl (.lst (row.map T.int))), some (.cl (.int up)), some (.cl (.int n)), some (.pt 0), some (.cl (.lst (names.map T.int))), some (.pt 1), k, a, b] ∧ Lks n L ∧ (∀ p ∈ L1, p ∈ L) ∧ L.length ≤ n' + i)
    (fun i ρ cs hi ⟨L, k, a, b, h1, h2, hL, hs, hl⟩ => by
      subst h1 h2
      obtain ⟨x7, hx7, _, _⟩ := hr.rk (7 + 3 * i) (by omega)
      obtain ⟨x8, hx8, x80, x81⟩ := hr.rk (8 + 3 * i) (by omega)
      obtain ⟨x9, hx9, x90, x91⟩ := hr.rk (9 + 3 * i) (by omega)
      have np : (0 : Int) < (n : Int) := by omega
      have b3 := bmi (j := 3) (by decide)
      have c7 : (7 : Int) + 3 * (i : Int) = ((7 + 3 * i : Nat) : Int) := by omega
      have c8 : (8 : Int) + 3 * (i : Int) = ((8 + 3 * i : Nat) : Int) := by omega
      have c9 : (9 : Int) + 3 * (i : Int) = ((9 + 3 * i : Nat) : Int) := by omega
      have u0 := Int.emod_nonneg x8 (show (n : Int) ≠ 0 by omega)
      have u1 := Int.emod_lt_of_pos x8 np
      have v0 := Int.emod_nonneg x9 (show (n : Int) ≠ 0 by omega)
      have v1 := Int.emod_lt_of_pos x9 np
      generalize hu : x8 % (n : Int) = u at u0 u1
      generalize hv : x9 % (n : Int) = v at v0 v1
      have lim : L.length < LIM := by unfold LIM; omega
      have hin : fIn true (W.cl (T.tup [T.int (if v < u then v else u), T.int (if v > u then v else u)])) (W.pt 1) [.lst [], .lst (linkW L)] = .ok (.cl (.bl (!decide (((if v < u then v else u), (if v > u then v else u)) ∈ L)))) [.lst [], .lst (linkW L)] :=
        f_ninD (enc := pT) pT_inj pT_gd (a := ((if v < u then v else u), (if v > u then v else u))) (as := L) (peek_cl _ _) (.inl (peek_lst rfl))
      by_cases p1 : 0 < x7 ∧ u ≠ v ∧ ((if v < u then v else u), (if v > u then v else u)) ∉ L
      · obtain ⟨p1, p2, p3⟩ := p1
        have d1 : decide (0 < x7) = true := decide_eq_true p1
        have d2 : decide (u = v) = false := decide_eq_false p2
        have d3 : decide (((if v < u then v else u), (if v > u then v else u)) ∈ L) = false := decide_eq_false p3
        refine ⟨_, _, ?_, L ++ [((if v < u then v else u), (if v > u then v else u))], some (.cl (.int (i : Nat))), some (.cl (.int u)), some (.cl (.int v)), rfl, rfl, hL.snoc u0 u1 v0 v1 p2, fun p hp => List.mem_append_left _ (hs p hp), by simp; omega⟩
        simp only [stepF, L2_law_net, ↓bindM, ev, ef, ↓reduceIte, el, ep, b3, c7, c8, c9, gx_nat, ints_get hx7, ints_get hx8, ints_get hx9, np, hu, hv, hin, d1, d2, d3, lim2, linkW_len, lim, linkW_snoc]
      · refine ⟨_, _, ?_, L, some (.cl (.int (i : Nat))), some (.cl (.int u)), some (.cl (.int v)), rfl, rfl, hL, hs, by omega⟩
        by_cases q1 : 0 < x7
        · by_cases q2 : u = v
          · have d1 : decide (0 < x7) = true := decide_eq_true q1
            have d2 : decide (u = v) = true := decide_eq_true q2
            simp only [stepF, L2_law_net, ↓bindM, ev, ef, ↓reduceIte, el, ep, b3, c7, c8, c9, gx_nat, ints_get hx7, ints_get hx8, ints_get hx9, np, hu, hv, hin, d1, d2, lim2]
          · have q3 : ((if v < u then v else u), (if v > u then v else u)) ∈ L := Classical.byContradiction fun h => p1 ⟨q1, q2, h⟩
            have d1 : decide (0 < x7) = true := decide_eq_true q1
            have d2 : decide (u = v) = false := decide_eq_false q2
            have d3 : decide (((if v < u then v else u), (if v > u then v else u)) ∈ L) = true := decide_eq_true q3
            simp only [stepF, L2_law_net, ↓bindM, ev, ef, ↓reduceIte, el, ep, b3, c7, c8, c9, gx_nat, ints_get hx7, ints_get hx8, ints_get hx9, np, hu, hv, hin, d1, d2, d3, lim2]
        · have d1 : decide (0 < x7) = false := decide_eq_false q1
          simp only [stepF, L2_law_net, ↓bindM, ev, ef, ↓reduceIte, el, ep, b3, c7, c8, c9, gx_nat, ints_get hx7, ints_get hx8, ints_get hx9, np, hu, hv, hin, d1, lim2])
    (ρ := [some (.cl (.lst (row.map T.int))), some (.cl (.int up)), some (.cl (.int n)), some (.pt 0), some (.cl (.lst (names.map T.int))), some (.pt 1), a1, b1, none]) (cs := [.lst [], .lst (linkW L1)])
    ⟨L1, a1, b1, none, rfl, rfl, hL1, fun p hp => hp, by omega⟩
  have r4 : inB 3999999999999 4 = true := by decide
  have E2 := sfor_ok (mi := mRng1 (mCons (mC (.int 4)) mNil)) (cs := [.lst [], .lst (linkW L1)]) (by simp only [↓bindM, ev, ef, ↓reduceIte, el, r4]; rfl) e2
  rw [← S2_law_net] at E2
  have es := f_sortedP (cs := [.lst [], .lst (linkW L2)]) (cs1 := [.lst [], .fz (.lst (L2.map pT))]) (x := .pt 1) (as := L2) (by unfold LIM; omega) (frz_lst (n := 7) (i := 1) rfl)
  have hp3 := srtE_perm pT L2
  generalize srtE pT L2 = L3 at es hp3
  refine ⟨n, L3, n1.1, n1.2.1, n1.2.2, fun p hp => hL2 p (hp3.mem_iff.mp hp), fun u v hu0 hu1 hv0 hv1 => ?_, by rw [hp3.length_eq]; omega, ?_⟩
  · have mono : ∀ p ∈ L1, p ∈ L3 := fun p hp => hp3.mem_iff.mpr (hs2 p hp)
    have ex : ∀ w : Int, 0 ≤ w → w < n → ∃ j, j ≤ n' ∧ names[j]? = some w := fun w w0 w1 => by
      have hw : w ∈ names := hN.perm.mem_iff.mpr (iotaI_mem.mpr ⟨w0, w1⟩)
      obtain ⟨j, hj, e⟩ := List.getElem_of_mem hw
      have := hN.len
      exact ⟨j, by omega, by rw [List.getElem?_eq_getElem hj, e]⟩
    obtain ⟨i, hi, ei⟩ := ex u hu0 hu1
    obtain ⟨j, hj, ej⟩ := ex v hv0 hv1
    obtain ⟨y, hy, _⟩ := hN.get (k := 0) (by omega)
    exact ((hc1 i u y hi ei hy).trans (hc1 j v y hj ej hy).symm).mono mono
  · refine run_cl (ρ := [some (.cl _), some (.cl _), none, none, none, none, none, none, none]) (cs := [.lst [], .fz (.lst (L2.map pT))]) rfl ?_
    have l8 : ((0 + 1 + 1 + 1 + 1 + 1 + 1 + 1 + 1 : Nat) ≤ LIM) = True := by unfold LIM; decide
    have z : (0 ≤ LIM) = True := by unfold LIM; decide
    have linkN : linkW [] = [] := rfl
    rw [linkN] at E1
    have r00' : row[0]? = some r0 := hr0
    simp only [m_law_net, ↓bindM, ev, ef, ↓reduceIte, el, ints_get hr0, l8, ht, hn, eC1, eC2, z, List.cons_append, List.nil_append, E1, E2, es, lim2]
end My

namespace My
open PySem L2 G
def rowT (r : List Int) : T := .lst (r.map T.int)
def nearC (rows : List (List Int)) : Cs := rows.map (fun r => Cell.lst (digW r)) ++ [.lst ((List.range' 0 rows.length).map W.pt)]
theorem nearC_top {rows : List (List Int)} {n : Nat} (h : rows.length = n) : (nearC rows)[n]? = some (.lst ((List.range' 0 n).map W.pt)) := by
  unfold nearC
  rw [List.getElem?_append_right (by simp [h])]
  simp [h]
theorem nearC_get {rows : List (List Int)} {a : Nat} {r : List Int} (h : rows[a]? = some r) : (nearC rows)[a]? = some (.lst (digW r)) := by
  unfold nearC
  have := (List.getElem?_eq_some_iff.mp h).1
  rw [List.getElem?_append_left (by simpa using this)]
  simp [h]
theorem nearC_set {rows : List (List Int)} {a : Nat} {r : List Int} (h : a < rows.length) : (nearC rows).set a (.lst (digW r)) = nearC (rows.set a r) := by
  unfold nearC
  rw [List.set_append_left _ _ (by simpa using h), List.length_set, List.map_set]
theorem pts_get {n a : Nat} (h : a < n) : ((List.range' 0 n).map W.pt)[a]? = some (.pt a) := by
  rw [List.getElem?_map, List.getElem?_range' h]; simp
/-- freezing a row of lists of ints -/
theorem frzs_rows (m : Nat) : ∀ (rows : List (List Int)) (pre post : Cs), frzs (frz (m + 1)) ((List.range' pre.length rows.length).map W.pt) (pre ++ rows.map (fun r => Cell.lst (digW r)) ++ post) = some (rows.map rowT, pre ++ rows.map (fun r => Cell.fz (rowT r)) ++ post)
  | [], pre, post => by simp [frzs]
  | r :: rows, pre, post => by
    have e1 : (pre ++ (r :: rows).map (fun r => Cell.lst (digW r)) ++ post)[pre.length]? = some (.lst ((r.map T.int).map W.cl)) := by
      rw [List.append_assoc, List.getElem?_append_right (Nat.le_refl _)]; simp [digW]
    have e2 : (pre ++ (r :: rows).map (fun r => Cell.lst (digW r)) ++ post).set pre.length (.fz (rowT r)) = (pre ++ [.fz (rowT r)]) ++ rows.map (fun r => Cell.lst (digW r)) ++ post := by
      rw [List.append_assoc, List.set_append_right _ _ (Nat.le_refl _)]; simp
    have ih := frzs_rows m rows (pre ++ [.fz (rowT r)]) post
    simp only [List.length_append, List.length_cons, List.length_nil, Nat.zero_add] at ih
    simp only [List.length_cons, List.range'_succ, List.map_cons]
    simp only [List.map_cons] at e1 e2
    have e3 := frz_lst (n := m) e1
    change _ = some (rowT r, _) at e3
    rw [show Cell.fz (T.lst (r.map T.int)) = Cell.fz (rowT r) from rfl, e2] at e3
    rw [frzs, e3]
    dsimp only
    rw [ih]
    simp
def nearF (rows : List (List Int)) : Cs := (rows.map (fun r => Cell.fz (rowT r)) ++ [Cell.lst ((List.range' 0 rows.length).map W.pt)]).set rows.length (.fz (.lst (rows.map rowT)))
theorem frz_near (rows : List (List Int)) : frz 8 (.pt rows.length) (nearC rows) = some (.lst (rows.map rowT), nearF rows) := by
  have := frzs_rows 6 rows [] [.lst ((List.range' 0 rows.length).map W.pt)]
  simp only [List.nil_append, List.length_nil] at this
  have top := nearC_top (rows := rows) rfl
  have e : (rows.map (fun r => Cell.fz (rowT r)) ++ [Cell.lst ((List.range' 0 rows.length).map W.pt)])[rows.length]? = some (.lst ((List.range' 0 rows.length).map W.pt)) := by
    rw [List.getElem?_append_right (by simp)]; simp
  simp only [ep, top]
  rw [show nearC rows = rows.map (fun r => Cell.lst (digW r)) ++ [.lst ((List.range' 0 rows.length).map W.pt)] from rfl, this]
  dsimp only
  rw [e]
  rfl
/-- rows of neighbours by the first j links -/
def Nbr (L : List (Int × Int)) (j : Nat) (rows : List (List Int)) : Prop := ∀ i r, rows[i]? = some r → r.length ≤ 2 * j ∧ ∀ b : Int, b ∈ r ↔ (((i : Nat) : Int), b) ∈ L.take j ∨ (b, ((i : Nat) : Int)) ∈ L.take j
theorem Nbr.step {L : List (Int × Int)} {j : Nat} {rows : List (List Int)} (h : Nbr L j rows) {a b : Nat} (hL : L[j]? = some (((a : Nat) : Int), ((b : Nat) : Int))) (ne : a ≠ b) {ra rb : List Int} (ha : rows[a]? = some ra) (hb : rows[b]? = some rb) :
    Nbr L (j + 1) ((rows.set a (ra ++ [(b : Int)])).set b (rb ++ [(a : Int)])) := by
  intro i r hr
  have tk : L.take (j + 1) = L.take j ++ [((a : Int), (b : Int))] := by rw [List.take_add_one, hL]; rfl
  rw [tk]
  have la := (List.getElem?_eq_some_iff.mp ha).1
  have lb := (List.getElem?_eq_some_iff.mp hb).1
  by_cases ib : b = i
  · subst ib
    rw [List.getElem?_set_self (by simpa using lb)] at hr
    cases hr
    obtain ⟨h1, h2⟩ := h b rb hb
    refine ⟨by simp; omega, fun x => ?_⟩
    simp only [List.mem_append, List.mem_singleton, h2 x, Prod.mk.injEq]
    constructor
    · rintro ((h | h) | h)
      · exact .inl (.inl h)
      · exact .inr (.inl h)
      · exact .inr (.inr ⟨h, trivial⟩)
    · rintro ((h | h) | (h | h))
      · exact .inl (.inl h)
      · exact absurd (show a = b by omega) ne
      · exact .inl (.inr h)
      · exact .inr h.1
  · rw [List.getElem?_set_ne ib] at hr
    by_cases ia : a = i
    · subst ia
      rw [List.getElem?_set_self la] at hr
      cases hr
      obtain ⟨h1, h2⟩ := h a ra ha
      refine ⟨by simp; omega, fun x => ?_⟩
      simp only [List.mem_append, List.mem_singleton, h2 x, Prod.mk.injEq]
      constructor
      · rintro ((h | h) | h)
        · exact .inl (.inl h)
        · exact .inr (.inl h)
        · exact .inl (.inr ⟨trivial, h⟩)
      · rintro ((h | h) | (h | h))
        · exact .inl (.inl h)
        · exact .inr h.2
        · exact .inl (.inr h)
        · exact absurd (show a = b by omega) ne
    · rw [List.getElem?_set_ne ia] at hr
      obtain ⟨h1, h2⟩ := h i r hr
      refine ⟨by omega, fun x => ?_⟩
      simp only [List.mem_append, List.mem_singleton, h2 x, Prod.mk.injEq]
      constructor
      · rintro (h | h)
        · exact .inl (.inl h)
        · exact .inr (.inl h)
      · rintro ((h | h) | (h | h))
        · exact .inl h
        · omega
        · exact .inr h
        · omega
theorem p_near (n : Nat) (L : List (Int × Int)) (hL : Lks n L) (hn : n ≤ 1000) (hl : L.length ≤ 1000) : ∃ near : List (List Int), near.length = n ∧ (∀ i r, near[i]? = some r → r.length ≤ 2000 ∧ ∀ b : Int, b ∈ r ↔ (((i : Nat) : Int), b) ∈ L ∨ (b, ((i : Nat) : Int)) ∈ L) ∧
    g_law_near [.int n, .lst (L.map pT)] = some (.lst (near.map rowT)) := by
  have rn := rgi (j := (n : Int)) (by omega)
  have eC1 : C1_law_near [some (.cl (.int n)), some (.cl (.lst (L.map pT))), none, none, none, none] [] = .ok (.pt n) (nearC (List.replicate n [])) := by
    have := lc_cells (mg := mgName 4) (me := E1_law_near) (ρ := wipeL [some (.cl (.int n)), some (.cl (.lst (L.map pT))), none, none, none, none] [4]) (c := .lst []) (rangeT 0 n) [] [] (fun t _ cs => ⟨_, rfl, by
      have z : (0 ≤ LIM) = True := by unfold LIM; decide
      simp only [E1_law_near, ↓bindM, ev, ef, el, z, ↓reduceIte]⟩) (by rw [rangeT_len]; unfold LIM; simp; omega)
    unfold C1_law_near mLc
    simp only [↓bindM, ev, ef, ↓reduceIte, el, rn, Int.toNat_natCast]
    simp only [ev, el] at this
    rw [this]
    simp [rangeT_len, ef, nearC, digW]
  obtain ⟨ρ1, cs1, e1, rows, o, h1, rfl, hlen, hN⟩ := for_ix (mg := mgName 3) (mb := L1_law_near) (ts := L.map pT)
    (fun j ρ cs => ∃ rows o, cs = nearC rows ∧ ρ = [some (.cl (.int n)), some (.cl (.lst (L.map pT))), some (.pt n), o, none, none] ∧ rows.length = n ∧ Nbr L j rows)
    (fun j t ρ cs ht ⟨rows, o, h1, h2, hlen, hN⟩ => by
      subst h1 h2
      rw [List.getElem?_map] at ht
      obtain ⟨⟨a, b⟩, hj, rfl⟩ := Option.map_eq_some_iff.mp ht
      have hjl := (List.getElem?_eq_some_iff.mp hj).1
      obtain ⟨a0, ab, bn⟩ := hL _ (List.mem_of_getElem? hj)
      dsimp only at a0 ab bn
      obtain ⟨a, rfl⟩ := Int.eq_ofNat_of_zero_le a0
      obtain ⟨b, rfl⟩ := Int.eq_ofNat_of_zero_le (show 0 ≤ b by omega)
      have la : a < rows.length := by omega
      have lb : b < rows.length := by omega
      have ha := List.getElem?_eq_getElem la
      have hb := List.getElem?_eq_getElem lb
      have ne : a ≠ b := by omega
      obtain ⟨q1, _⟩ := hN a _ ha
      obtain ⟨q2, _⟩ := hN b _ hb
      have l1 : rows[a].length < LIM := by unfold LIM; omega
      have l2 : rows[b].length < LIM := by unfold LIM; omega
      have top1 := nearC_top hlen
      have hlen2 : (rows.set a (rows[a] ++ [(b : Int)])).length = n := by simp [hlen]
      have top2 := nearC_top hlen2
      have ga := nearC_get ha
      have hb2 : (rows.set a (rows[a] ++ [(b : Int)]))[b]? = some rows[b] := by rw [List.getElem?_set_ne ne, hb]
      have gb := nearC_get hb2
      have sa := nearC_set (r := rows[a] ++ [(b : Int)]) la
      have sb := nearC_set (rows := rows.set a (rows[a] ++ [(b : Int)])) (r := rows[b] ++ [(a : Int)]) (show b < (rows.set a (rows[a] ++ [(b : Int)])).length by rw [List.length_set]; exact lb)
      refine ⟨_, _, ?_, (rows.set a (rows[a] ++ [(b : Int)])).set b (rows[b] ++ [(a : Int)]), some (.cl (pT (a, b))), rfl, rfl, by simp [hlen], hN.step hj ne ha hb⟩
      have pa := pts_get (n := n) (a := a) (by omega)
      have pb := pts_get (n := n) (a := b) (by omega)
      simp only [stepF, L1_law_near, pT, ↓bindM, ev, ef, ↓reduceIte, el, ep, gx_nat, top1, top2, pa, pb, ga, gb, digW_len, l1, l2, digW_snoc, sa, sb])
    (ρ := [some (.cl (.int n)), some (.cl (.lst (L.map pT))), some (.pt n), none, none, none]) (cs := nearC (List.replicate n [])) ⟨_, none, rfl, rfl, by simp, fun i r hr => by
      have : r = [] := by
        have := List.mem_of_getElem? hr
        exact (List.mem_replicate.mp this).2
      subst this
      simp⟩
  rw [List.length_map] at hN
  subst h1
  have E1 := sfor_ok (mi := mSeq (mVar 1)) (cs := nearC (List.replicate n [])) (by simp only [↓bindM, ev, ef, el]) e1
  rw [← S1_law_near] at E1
  have fn := frz_near rows
  rw [hlen] at fn
  have it : itemsT (.pt n) (nearC rows) = .ok (rows.map rowT) (nearF rows) := by simp only [itemsT, fn]
  let f : T → T := fun t => match t with
    | .lst ts => .lst (sortT ts)
    | t => t
  have eC2 := mlc_ok (vs := [5]) (mi := mSeq (mVar 2)) (mg := mgName 5) (mt := mYes) (me := E2_law_near) (ρ := [some (.cl (.int n)), some (.cl (.lst (L.map pT))), some (.pt n), o, none, none]) (cs := nearC rows) (cs1 := nearF rows) (ts := rows.map rowT) f (fun _ => true)
    (by simp only [↓bindM, ev, ef, el, it]) (by rw [List.length_map]; unfold LIM; omega) (fun t ht => by
      obtain ⟨r, hr, rfl⟩ := List.mem_map.mp ht
      obtain ⟨i, hi, rfl⟩ := List.getElem_of_mem hr
      obtain ⟨q1, _⟩ := hN i _ (List.getElem?_eq_getElem hi)
      refine ⟨_, rfl, rfl, fun _ => ?_⟩
      have := f_sortedI (cs := nearF rows) (cs1 := nearF rows) (x := .cl (rowT rows[i])) (as := rows[i]) (by unfold LIM; omega) (frz_cl _ _ _)
      rw [← sortT_enc] at this
      simp only [E2_law_near, ↓bindM, ev, el, this, f, rowT]
      exact this)
  rw [← C2_law_near] at eC2
  refine ⟨rows.map (srtE T.int), by simp [hlen], fun i r hr => ?_, run_cl (ρ := [some (.cl _), some (.cl _), none, none, none, none]) (cs := nearF rows) rfl ?_⟩
  · rw [List.getElem?_map] at hr
    obtain ⟨r0, h0, rfl⟩ := Option.map_eq_some_iff.mp hr
    obtain ⟨q1, q2⟩ := hN i r0 h0
    have hp := srtE_perm T.int r0
    refine ⟨by rw [hp.length_eq]; omega, fun b => ?_⟩
    rw [hp.mem_iff, q2 b, List.take_length]
  · have ef1 : ((rows.map rowT).filter fun _ => true).map f = (rows.map (srtE T.int)).map rowT := by
      rw [filter_yes, List.map_map, List.map_map]
      refine List.map_congr_left fun r _ => ?_
      show T.lst (sortT (r.map T.int)) = rowT (srtE T.int r)
      rw [sortT_enc]; rfl
    rw [ef1] at eC2
    simp only [m_law_near, ↓bindM, ev, ef, el, eC1, E1, eC2]
end My

namespace My
open PySem L2 G
/-- a net as rows of neighbours, all of them nodes -/
structure Near (n : Nat) (near : List (List Int)) : Prop where
  len : near.length = n
  nod : ∀ (i : Nat) (r : List Int), near[i]? = some r → ∀ b ∈ r, 0 ≤ b ∧ b < n
  small : n ≤ 1000 ∧ ∀ (i : Nat) (r : List Int), near[i]? = some r → r.length ≤ 2000
def Nb (near : List (List Int)) (a b : Int) : Prop := ∃ (i : Nat) (r : List Int), a = i ∧ near[i]? = some r ∧ b ∈ r
inductive Rch (near : List (List Int)) (av : List Int) (s : Int) : Int → Prop
  | refl : Rch near av s s
  | step {b c : Int} : Rch near av s b → Nb near b c → c ∉ av → Rch near av s c
theorem Rch.node {n : Nat} {near : List (List Int)} (hn : Near n near) {av : List Int} {s c : Int} (h : Rch near av s c) (s0 : 0 ≤ s) (s1 : s < n) : 0 ≤ c ∧ c < n := by
  cases h with
  | refl => exact ⟨s0, s1⟩
  | step _ nb _ => obtain ⟨i, r, _, hr, hm⟩ := nb; exact hn.nod i r hr _ hm
structure GoodR (n : Nat) (near : List (List Int)) (av : List Int) (s : Int) (R : List Int) : Prop where
  nd : R.Nodup
  rch : ∀ x ∈ R, 0 ≤ x ∧ x < n ∧ Rch near av s x
  st : R[0]? = some s
theorem GoodR.len {n : Nat} {near : List (List Int)} {av : List Int} {s : Int} {R : List Int} (h : GoodR n near av s R) : R.length ≤ n := by
  have := h.nd.length_le_of_subset (l₂ := iotaI n) fun x hx => iotaI_mem.mpr ⟨(h.rch x hx).1, (h.rch x hx).2.1⟩
  rwa [iotaI_len] at this
theorem nodup_snoc {α : Type} {R : List α} {c : α} (h : R.Nodup) (hc : c ∉ R) : (R ++ [c]).Nodup := by
  rw [List.nodup_append]
  refine ⟨h, by simp, fun a ha b hb => ?_⟩
  have : b = c := by simpa using hb
  subst this
  rintro rfl
  exact hc ha
theorem reach_inner {n : Nat} {near : List (List Int)} (hn : Near n near) {av : List Int} {s g : Int} {k : Nat} {x : Nat} {r : List Int} (hr : near[x]? = some r) {R0 : List Int} (h0 : GoodR n near av s R0) (hx : R0[k]? = some (x : Int)) (o : Option W) :
    ∃ ρ' cs', S2_law_reaches [some (.cl (.lst (near.map rowT))), some (.cl (.lst (av.map T.int))), some (.cl (.int s)), some (.cl (.int g)), some (.pt 0), some (.cl (.int k)), o] [.lst (digW R0)] = .ok (.nx ρ') cs' ∧
      ∃ R o', cs' = [.lst (digW R)] ∧ ρ' = [some (.cl (.lst (near.map rowT))), some (.cl (.lst (av.map T.int))), some (.cl (.int s)), some (.cl (.int g)), some (.pt 0), some (.cl (.int k)), o'] ∧ GoodR n near av s R ∧ R0 <+: R ∧ ∀ c ∈ r, c ∈ av ∨ c ∈ R := by
  have hxr : Rch near av s x := (h0.rch _ (List.mem_of_getElem? hx)).2.2
  obtain ⟨ρ', cs', e, R, o', h1, h2, h3, h4, h5⟩ := for_ix (mg := mgName 6) (mb := L2_law_reaches) (ts := r.map T.int)
    (fun i ρ cs => ∃ R o', cs = [.lst (digW R)] ∧ ρ = [some (.cl (.lst (near.map rowT))), some (.cl (.lst (av.map T.int))), some (.cl (.int s)), some (.cl (.int g)), some (.pt 0), some (.cl (.int k)), o'] ∧ GoodR n near av s R ∧ R0 <+: R ∧ ∀ c ∈ r.take i, c ∈ av ∨ c ∈ R)
    (fun i t ρ cs ht ⟨R, o', h1, h2, h3, h4, h5⟩ => by
      subst h1 h2
      rw [List.getElem?_map] at ht
      obtain ⟨c, hc, rfl⟩ := Option.map_eq_some_iff.mp ht
      have hcr := List.mem_of_getElem? hc
      have tk : r.take (i + 1) = r.take i ++ [c] := by rw [List.take_add_one, hc]; rfl
      have i1 : fIn true (W.cl (T.int c)) (W.pt 0) [.lst (digW R)] = .ok (.cl (.bl (!decide (c ∈ R)))) [.lst (digW R)] := f_ninD (enc := T.int) int_inj int_gd (peek_cl _ _) (.inl (peek_lst rfl))
      have i2 : fIn true (W.cl (T.int c)) (W.cl (.lst (av.map T.int))) [.lst (digW R)] = .ok (.cl (.bl (!decide (c ∈ av)))) [.lst (digW R)] := f_ninD (enc := T.int) int_inj int_gd (peek_cl _ _) (.inl (peek_cl _ _))
      have lim : R.length < LIM := by have := h3.len; have := hn.small.1; unfold LIM; omega
      by_cases q1 : c ∈ R
      · have d1 : decide (c ∈ R) = true := decide_eq_true q1
        refine ⟨_, _, ?_, R, some (.cl (.int c)), rfl, rfl, h3, h4, fun b hb => ?_⟩
        · simp only [stepF, L2_law_reaches, ↓bindM, ev, ef, ↓reduceIte, el, ep, i1, d1]
        · rw [tk] at hb
          rcases List.mem_append.mp hb with hb | hb
          · exact h5 b hb
          · have : b = c := by simpa using hb
            subst this; exact .inr q1
      · have d1 : decide (c ∈ R) = false := decide_eq_false q1
        by_cases q2 : c ∈ av
        · have d2 : decide (c ∈ av) = true := decide_eq_true q2
          refine ⟨_, _, ?_, R, some (.cl (.int c)), rfl, rfl, h3, h4, fun b hb => ?_⟩
          · simp only [stepF, L2_law_reaches, ↓bindM, ev, ef, ↓reduceIte, el, ep, i1, d1, i2, d2]
          · rw [tk] at hb
            rcases List.mem_append.mp hb with hb | hb
            · exact h5 b hb
            · have : b = c := by simpa using hb
              subst this; exact .inl q2
        · have d2 : decide (c ∈ av) = false := decide_eq_false q2
          have cn := hn.nod x r hr c hcr
          refine ⟨_, _, ?_, R ++ [c], some (.cl (.int c)), rfl, rfl, ⟨nodup_snoc h3.nd q1, fun y hy => ?_, ?_⟩, h4.trans (List.prefix_append _ _), fun b hb => ?_⟩
          · simp only [stepF, L2_law_reaches, ↓bindM, ev, ef, ↓reduceIte, el, ep, i1, d1, i2, d2, digW_len, lim, digW_snoc]
          · rcases List.mem_append.mp hy with hy | hy
            · exact h3.rch y hy
            · have : y = c := by simpa using hy
              subst this
              exact ⟨cn.1, cn.2, hxr.step ⟨x, r, rfl, hr, hcr⟩ q2⟩
          · have := h3.st
            have hl := (List.getElem?_eq_some_iff.mp this).1
            rw [List.getElem?_append_left hl]; exact this
          · rw [tk] at hb
            rcases List.mem_append.mp hb with hb | hb
            · exact (h5 b hb).imp id (List.mem_append_left _)
            · have : b = c := by simpa using hb
              subst this; exact .inr (by simp))
    (ρ := [some (.cl (.lst (near.map rowT))), some (.cl (.lst (av.map T.int))), some (.cl (.int s)), some (.cl (.int g)), some (.pt 0), some (.cl (.int k)), o]) (cs := [.lst (digW R0)]) ⟨R0, o, rfl, rfl, h0, List.prefix_refl _, fun c hc => by simp at hc⟩
  rw [List.length_map, List.take_length] at h5
  refine ⟨ρ', cs', ?_, R, o', h1, h2, h3, h4, h5⟩
  unfold S2_law_reaches
  refine sfor_ok ?_ e
  have hx' := digW_get hx
  have hr' : (near.map rowT)[x]? = some (rowT r) := by rw [List.getElem?_map, hr]; rfl
  simp only [↓bindM, ev, ef, el, ep, gx_nat, hx', hr']
  rfl
theorem p_reaches {n : Nat} {near : List (List Int)} (hn : Near n near) (av : List Int) {s : Int} (g : Int) (s0 : 0 ≤ s) (s1 : s < n) : ∃ v : Bool, g_law_reaches [.lst (near.map rowT), .lst (av.map T.int), .int s, .int g] = some (.bl v) ∧ (v = true ↔ Rch near av s g) := by
  have rn := rgi (j := (n : Int)) (by have := hn.small.1; omega)
  obtain ⟨ρ', cs', e, R, o1, o2, h1, h2, h3, h4⟩ := for_rng0 (mg := mgName 5) (mb := L1_law_reaches) (n := n)
    (fun k ρ cs => ∃ R o1 o2, cs = [.lst (digW R)] ∧ ρ = [some (.cl (.lst (near.map rowT))), some (.cl (.lst (av.map T.int))), some (.cl (.int s)), some (.cl (.int g)), some (.pt 0), o1, o2] ∧ GoodR n near av s R ∧ ∀ (j : Nat) (x : Int), j < k → R[j]? = some x → ∀ c, Nb near x c → c ∈ av ∨ c ∈ R)
    (fun k ρ cs hk ⟨R, o1, o2, h1, h2, h3, h4⟩ => by
      subst h1 h2
      by_cases hl : k < R.length
      · have hx := List.getElem?_eq_getElem hl
        obtain ⟨x0, x1, _⟩ := h3.rch _ (List.getElem_mem hl)
        obtain ⟨x, ex⟩ := Int.eq_ofNat_of_zero_le x0
        rw [ex] at hx x1
        have hxl : x < near.length := by rw [hn.len]; omega
        have hr := List.getElem?_eq_getElem hxl
        obtain ⟨ρ', cs', e, R', o', g1, g2, g3, g4, g5⟩ := reach_inner hn (g := g) hr h3 hx o2
        refine ⟨ρ', cs', ?_, R', _, _, g1, g2, g3, fun j y hj hy c hc => ?_⟩
        · have d1 : decide ((k : Int) < (R.length : Nat)) = true := decide_eq_true (by omega)
          simp only [stepF, L1_law_reaches, ↓bindM, ev, ef, ↓reduceIte, el, ep, digW_len, d1, e]
        · by_cases jk : j = k
          · subst jk
            have : y = x := by
              have := pre_get g4 hx
              rw [hy] at this; exact Option.some.inj this
            subst this
            obtain ⟨i, r, hi, hr', hm⟩ := hc
            have : i = x := by omega
            subst this
            rw [hr] at hr'; cases hr'
            exact g5 c hm
          · have hjl : j < R.length := by omega
            have : R[j]? = some y := by
              have := pre_get g4 (List.getElem?_eq_getElem hjl)
              rw [hy] at this
              rw [List.getElem?_eq_getElem hjl, this]
            exact (h4 j y (by omega) this c hc).imp id fun m => g4.subset m
      · have d1 : decide ((k : Int) < (R.length : Nat)) = false := decide_eq_false (by omega)
        refine ⟨_, _, ?_, R, some (.cl (.int k)), o2, rfl, rfl, h3, fun j y hj hy c hc => ?_⟩
        · simp only [stepF, L1_law_reaches, ↓bindM, ev, ef, ↓reduceIte, el, ep, digW_len, d1]
        · have := (List.getElem?_eq_some_iff.mp hy).1
          exact h4 j y (by omega) hy c hc)
    (ρ := [some (.cl (.lst (near.map rowT))), some (.cl (.lst (av.map T.int))), some (.cl (.int s)), some (.cl (.int g)), some (.pt 0), none, none]) (cs := [.lst (digW [s])])
    ⟨[s], none, none, rfl, rfl, ⟨by simp, fun x hx => by
      have : x = s := by simpa using hx
      subst this; exact ⟨s0, s1, .refl⟩, rfl⟩, fun j x hj => by omega⟩
  subst h1 h2
  have E := sfor_ok (mi := mRng1 (mCons (mCall fLen (mCons (mVar 0) mNil)) mNil)) (cs := [.lst (digW [s])]) (by simp only [↓bindM, ev, ef, ↓reduceIte, el, List.length_map, hn.len, rn, Int.toNat_natCast]) e
  rw [← S1_law_reaches] at E
  have cl : ∀ x, Rch near av s x → x ∈ R := by
    intro x hx
    induction hx with
    | refl => exact List.mem_of_getElem? h3.st
    | step _ nb nav ih =>
      obtain ⟨j, hj, ej⟩ := List.getElem_of_mem ih
      have := h3.len
      rcases h4 j _ (by omega) (by rw [List.getElem?_eq_getElem hj, ej]) _ nb with h | h
      · exact absurd h nav
      · exact h
  have i1 : fIn false (W.cl (T.int g)) (W.pt 0) [.lst (digW R)] = .ok (.cl (.bl (decide (g ∈ R)))) [.lst (digW R)] := f_inD (enc := T.int) int_inj int_gd (peek_cl _ _) (.inl (peek_lst rfl))
  refine ⟨decide (g ∈ R), run_cl (ρ := [some (.cl _), some (.cl _), some (.cl _), some (.cl _), none, none, none]) (cs := [.lst (digW R)]) rfl ?_, ?_⟩
  · have l1 : (0 + 1 ≤ LIM) = True := by unfold LIM; decide
    have ds : digW [s] = [W.cl (.int s)] := rfl
    rw [ds] at E
    simp only [m_law_reaches, ↓bindM, ev, ef, ↓reduceIte, el, l1, List.nil_append, E, i1]
  · rw [decide_eq_true_eq]
    exact ⟨fun h => (h3.rch g h).2.2, cl g⟩
end My

namespace My
open PySem L2 G
theorem Rch.out {near : List (List Int)} {av : List Int} {c v : Int} (h : Rch near av c v) (ne : c ≠ v) : ∃ b, Nb near c b ∧ b ∉ av ∧ b ≠ c ∧ Rch near (av ++ [c]) b v := by
  have : v = c ∨ ∃ b, Nb near c b ∧ b ∉ av ∧ b ≠ c ∧ Rch near (av ++ [c]) b v := by
    induction h with
    | refl => exact .inl rfl
    | @step b' c' h nb nav ih =>
      by_cases e : c' = c
      · exact .inl e
      · refine .inr ?_
        have na : c' ∉ av ++ [c] := by simp [nav, e]
        by_cases eb : b' = c
        · subst eb
          exact ⟨c', nb, nav, e, .refl⟩
        · rcases ih (fun h => eb h.symm) with h | ⟨b, h1, h2, h3, h4⟩
          · exact absurd h eb
          · exact ⟨b, h1, h2, h3, h4.step nb na⟩
  rcases this with h | h
  · exact absurd h.symm ne
  · exact h
structure Rt (n : Nat) (near : List (List Int)) (u v : Int) (pre : List Int) (c : Int) : Prop where
  nd : (pre ++ [c]).Nodup
  nod : ∀ x ∈ pre ++ [c], 0 ≤ x ∧ x < n
  st : (pre ++ [c])[0]? = some u
  lk : ∀ (i : Nat) (a b : Int), (pre ++ [c])[i]? = some a → (pre ++ [c])[i + 1]? = some b → Nb near a b
  rch : Rch near pre c v
theorem Rt.len {n : Nat} {near : List (List Int)} {u v c : Int} {pre : List Int} (h : Rt n near u v pre c) : pre.length + 1 ≤ n := by
  have := h.nd.length_le_of_subset (l₂ := iotaI n) fun x hx => iotaI_mem.mpr (h.nod x hx)
  rw [iotaI_len] at this
  simpa using this
theorem Rt.snoc {n : Nat} {near : List (List Int)} (hn : Near n near) {u v c b : Int} {pre : List Int} (h : Rt n near u v pre c) (nb : Nb near c b) (hb : b ∉ pre ++ [c]) (hr : Rch near (pre ++ [c]) b v) : Rt n near u v (pre ++ [c]) b := by
  have ⟨i, r, hi, hr', hm⟩ := nb
  refine ⟨nodup_snoc h.nd hb, fun x hx => ?_, ?_, fun i a d ha hd => ?_, hr⟩
  · rcases List.mem_append.mp hx with hx | hx
    · exact h.nod x hx
    · have : x = b := by simpa using hx
      subst this
      exact hn.nod i r hr' _ hm
  · rw [List.getElem?_append_left (by simp)]; exact h.st
  · by_cases hil : i + 1 < (pre ++ [c]).length
    · rw [List.getElem?_append_left (by omega)] at ha
      rw [List.getElem?_append_left hil] at hd
      exact h.lk i a d ha hd
    · have hil2 := (List.getElem?_eq_some_iff.mp hd).1
      simp at hil hil2
      have e : i = pre.length := by omega
      subst e
      simp at ha hd
      subst ha; subst hd
      exact nb
theorem last_dig (pre : List Int) (c : Int) : (digW (pre ++ [c])).getLast? = some (W.cl (.int c)) := by
  rw [← digW_snoc]; simp
theorem p_route {n : Nat} {near : List (List Int)} (hn : Near n near) (con : ∀ u v : Int, 0 ≤ u → u < n → 0 ≤ v → v < n → Rch near [] u v) {u v : Int} (u0 : 0 ≤ u) (u1 : u < n) (v0 : 0 ≤ v) (v1 : v < n) (num : Int) :
    ∃ pre : List Int, Rt n near u v pre v ∧ g_law_free_route [.lst (near.map rowT), .int u, .int v, .int num] = some (.tup ((pre ++ [v]).map .int)) := by
  have sm := hn.small.1
  have rn := rgi (j := (n : Int)) (by omega)
  obtain ⟨ρ', cs', e, pre, o1, o2, o3, o4, o5, h1, h2, h3⟩ := for_rng0B (mg := mgName 6) (mb := L1_law_free_route) (n := n)
    (fun k ρ cs => ∃ pre c rest o1 o2 o3 o4, cs = [.lst (digW (pre ++ [c]))] ∧ ρ = [some (.cl (.lst (near.map rowT))), some (.cl (.int u)), some (.cl (.int v)), some (.cl (.int num)), some (.pt 0), some (.cl (.int rest)), o1, o2, o3, o4] ∧ Rt n near u v pre c ∧ pre.length = k)
    (fun ρ cs => ∃ pre o1 o2 o3 o4 o5, cs = [.lst (digW (pre ++ [v]))] ∧ ρ = [some (.cl (.lst (near.map rowT))), some (.cl (.int u)), some (.cl (.int v)), some (.cl (.int num)), some (.pt 0), o1, o2, o3, o4, o5] ∧ Rt n near u v pre v)
    (fun k ρ cs hk ⟨pre, c, rest, o1, o2, o3, o4, h1, h2, h3, hlen⟩ => by
      subst h1 h2
      have ld := last_dig pre c
      by_cases hc : c = v
      · subst hc
        have d1 : decide (c = c) = true := decide_eq_true rfl
        refine .inr ⟨_, _, ?_, pre, some (.cl (.int rest)), some (.cl (.int k)), o2, o3, o4, rfl, rfl, h3⟩
        simp only [stepF, L1_law_free_route, ↓bindM, ev, ef, ↓reduceIte, el, ep, ld, d1]
      · have d1 : decide (c = v) = false := decide_eq_false hc
        refine .inl ?_
        obtain ⟨c0, c1⟩ := h3.nod c (by simp)
        obtain ⟨x, rfl⟩ := Int.eq_ofNat_of_zero_le c0
        have hxl : x < near.length := by rw [hn.len]; omega
        have hr := List.getElem?_eq_getElem hxl
        generalize near[x] = r at hr
        have hr' : (near.map rowT)[x]? = some (rowT r) := by rw [List.getElem?_map, hr]; rfl
        have rl := hn.small.2 x r hr
        let ρk : G.Loc := [some (.cl (.lst (near.map rowT))), some (.cl (.int u)), some (.cl (.int v)), some (.cl (.int num)), some (.pt 0), some (.cl (.int rest)), some (.cl (.int k)), o2, o3, o4]
        -- first the neighbours that are not on the route
        let p1 : T → Bool := fun t => match t with
          | .int b => !decide (b ∈ pre ++ [(x : Int)])
          | _ => false
        have eC1 := mlc_ok (vs := [9]) (mi := mSeq (mOp fIx (mVar 0) (mOp fIx (mVar 4) (mUn fNeg (mC (.int 1)))))) (mg := mgName 9) (mt := T1_law_free_route) (me := E1_law_free_route) (ρ := ρk) (cs := [.lst (digW (pre ++ [(x : Int)]))]) (cs1 := [.lst (digW (pre ++ [(x : Int)]))]) (ts := r.map T.int) id p1
          (by simp only [ρk, ↓bindM, ev, ef, el, ep, ld, gx_nat, hr']; rfl) (by rw [List.length_map]; unfold LIM; omega) (fun t ht => by
            obtain ⟨b, hb, rfl⟩ := List.mem_map.mp ht
            have i1 : fIn true (W.cl (T.int b)) (W.pt 0) [.lst (digW (pre ++ [(x : Int)]))] = .ok (.cl (.bl (!decide (b ∈ pre ++ [(x : Int)])))) [.lst (digW (pre ++ [(x : Int)]))] := f_ninD (enc := T.int) int_inj int_gd (peek_cl _ _) (.inl (peek_lst rfl))
            refine ⟨_, rfl, ?_, fun _ => ?_⟩
            · simp only [T1_law_free_route, ρk, ↓bindM, ev, el, i1, p1]
            · simp only [E1_law_free_route, ρk, ev, el, id])
        rw [← C1_law_free_route] at eC1
        have ef1 : ((r.map T.int).filter p1).map id = (r.filter fun b => !decide (b ∈ pre ++ [(x : Int)])).map T.int := by
          rw [List.map_id, List.filter_map]; rfl
        rw [ef1] at eC1
        generalize ho1 : (r.filter fun b => !decide (b ∈ pre ++ [(x : Int)])) = opts at eC1
        have ol : opts.length ≤ 2000 := by rw [← ho1]; exact Nat.le_trans (List.length_filter_le _ _) rl
        have om : ∀ b, b ∈ opts ↔ b ∈ r ∧ b ∉ pre ++ [(x : Int)] := fun b => by
          rw [← ho1, List.mem_filter, Bool.not_eq_true', decide_eq_false_iff_not]
        -- then those from which v is reached
        let p2 : T → Bool := fun t => match g_law_reaches [.lst (near.map rowT), .lst ((pre ++ [(x : Int)]).map T.int), t, .int v] with
          | some (.bl b) => b
          | _ => false
        let ρ2 : G.Loc := [some (.cl (.lst (near.map rowT))), some (.cl (.int u)), some (.cl (.int v)), some (.cl (.int num)), some (.pt 0), some (.cl (.int rest)), some (.cl (.int k)), some (.cl (.lst (opts.map T.int))), o3, o4]
        have hp2 : ∀ b ∈ opts, ∃ w : Bool, g_law_reaches [.lst (near.map rowT), .lst ((pre ++ [(x : Int)]).map T.int), .int b, .int v] = some (.bl w) ∧ p2 (.int b) = w ∧ (w = true ↔ Rch near (pre ++ [(x : Int)]) b v) := fun b hb => by
          obtain ⟨b0, b1⟩ := hn.nod x r hr b ((om b).mp hb).1
          obtain ⟨w, hw, hw2⟩ := p_reaches hn (pre ++ [(x : Int)]) v b0 b1
          exact ⟨w, hw, by simp only [p2, hw], hw2⟩
        have eC2 := mlc_ok (vs := [9]) (mi := mSeq (mVar 7)) (mg := mgName 9) (mt := T2_law_free_route) (me := E2_law_free_route) (ρ := ρ2) (cs := [.lst (digW (pre ++ [(x : Int)]))]) (cs1 := [.lst (digW (pre ++ [(x : Int)]))]) (ts := opts.map T.int) id p2
          (by simp only [ρ2, ↓bindM, ev, ef, el]) (by rw [List.length_map]; unfold LIM; omega) (fun t ht => by
            obtain ⟨b, hb, rfl⟩ := List.mem_map.mp ht
            obtain ⟨w, hw, hw1, _⟩ := hp2 b hb
            have hf : frzs (frz 8) [.cl (.lst (near.map rowT)), .pt 0, .cl (.int b), .cl (.int v)] [.lst (digW (pre ++ [(x : Int)]))] = some ([.lst (near.map rowT), .lst ((pre ++ [(x : Int)]).map T.int), .int b, .int v], [.fz (.lst ((pre ++ [(x : Int)]).map T.int))]) := by
              have e0 := frz_lst (n := 7) (i := 0) (ts := (pre ++ [(x : Int)]).map T.int) (cs := [.lst (digW (pre ++ [(x : Int)]))]) rfl
              simp only [frzs, frz_cl, e0, el]
            have hc := callT_sc hf hw rfl
            refine ⟨_, rfl, ?_, fun _ => ?_⟩
            · rw [hw1]
              simp only [T2_law_free_route, ρ2, ↓bindM, ev, el, hc]
            · simp only [E2_law_free_route, ρ2, ev, el, id])
        rw [← C2_law_free_route] at eC2
        have ef2 : ((opts.map T.int).filter p2).map id = (opts.filter fun b => p2 (.int b)).map T.int := by
          rw [List.map_id, List.filter_map]; rfl
        rw [ef2] at eC2
        generalize ho2 : (opts.filter fun b => p2 (.int b)) = opt2 at eC2
        have o2l : opt2.length ≤ 2000 := by rw [← ho2]; exact Nat.le_trans (List.length_filter_le _ _) ol
        have o2m : ∀ b, b ∈ opt2 ↔ b ∈ r ∧ b ∉ pre ++ [(x : Int)] ∧ Rch near (pre ++ [(x : Int)]) b v := fun b => by
          rw [← ho2, List.mem_filter]
          constructor
          · rintro ⟨h1, h2⟩
            obtain ⟨w, _, hw1, hw2⟩ := hp2 b h1
            rw [hw1] at h2
            exact ⟨((om b).mp h1).1, ((om b).mp h1).2, hw2.mp h2⟩
          · rintro ⟨h1, h2, h3⟩
            have hb := (om b).mpr ⟨h1, h2⟩
            obtain ⟨w, _, hw1, hw2⟩ := hp2 b hb
            exact ⟨hb, by rw [hw1]; exact hw2.mpr h3⟩
        have pos : 0 < opt2.length := by
          obtain ⟨b, ⟨i, r2, hi, hr2, hm⟩, h2, h4, h5⟩ := h3.rch.out hc
          have : i = x := by omega
          subst this
          rw [hr] at hr2; cases hr2
          exact List.length_pos_of_mem ((o2m b).mpr ⟨hm, by simp [h2, h4], h5⟩)
        have lp : (0 : Int) < (opt2.length : Nat) := by omega
        obtain ⟨q, hq⟩ := Int.eq_ofNat_of_zero_le (Int.emod_nonneg rest (show (opt2.length : Int) ≠ 0 by omega))
        have hq1 := Int.emod_lt_of_pos rest lp
        rw [hq] at hq1
        have hql : q < opt2.length := by omega
        have gq := List.getElem?_eq_getElem hql
        obtain ⟨m1, m2, m3⟩ := (o2m _).mp (List.getElem_mem hql)
        generalize opt2[q] = b at gq m1 m2 m3
        have dv := dvi (j := (opt2.length : Int)) (by omega)
        have hl := h3.len
        have lim : (digW (pre ++ [(x : Int)])).length < LIM := by rw [digW_len]; simp; unfold LIM; omega
        have iq : ((opt2.map T.int))[q]? = some (T.int b) := ints_get gq
        refine ⟨_, _, ?_, pre ++ [(x : Int)], b, rest / opt2.length, some (.cl (.int k)), some (.cl (.lst (opt2.map T.int))), some (.cl (.int q)), o4, rfl, rfl, h3.snoc hn ⟨x, r, rfl, hr, m1⟩ m2 m3, by simp [hlen]⟩
        simp only [ρk, ρ2] at eC1 eC2
        simp only [stepF, L1_law_free_route, ↓bindM, ev, ef, ↓reduceIte, el, ep, ld, d1, eC1, eC2, List.length_map, lp, dv, hq, gx_nat, iq, lim, digW_snoc])
    (fun ρ cs ⟨pre, c, rest, o1, o2, o3, o4, h1, h2, h3, hlen⟩ => by
      have := h3.len
      omega)
    (ρ := [some (.cl (.lst (near.map rowT))), some (.cl (.int u)), some (.cl (.int v)), some (.cl (.int num)), some (.pt 0), some (.cl (.int num)), none, none, none, none]) (cs := [.lst (digW [u])])
    ⟨[], u, num, none, none, none, none, rfl, rfl, ⟨by simp, fun x hx => by
      have : x = u := by simpa using hx
      subst this; exact ⟨u0, u1⟩, rfl, fun i a b ha hb => by simp at hb, con u v u0 u1 v0 v1⟩, rfl⟩
  subst h1 h2
  have E := sfor_ok (mi := mRng1 (mCons (mCall fLen (mCons (mVar 0) mNil)) mNil)) (cs := [.lst (digW [u])]) (by simp only [↓bindM, ev, ef, ↓reduceIte, el, List.length_map, hn.len, rn, Int.toNat_natCast]) e
  rw [← S1_law_free_route] at E
  have ds : digW [u] = [W.cl (.int u)] := rfl
  have l1 : (0 + 1 ≤ LIM) = True := by unfold LIM; decide
  rw [ds] at E
  refine ⟨pre, h3, run_cl (ρ := [some (.cl _), some (.cl _), some (.cl _), some (.cl _), none, none, none, none, none, none]) (cs := [.lst (digW (pre ++ [v]))]) rfl ?_⟩
  simp only [m_law_free_route, ↓bindM, ev, ef, ↓reduceIte, el, ep, l1, List.nil_append, E, frzs_dig]
end My

namespace My
open PySem L2 G
/-- a letter: its start and its route -/
abbrev Ltr := Nat × List Int
def ltT (l : Ltr) : T := .tup [.int l.1, .tup (l.2.map T.int)]
def crowdW (c : List Ltr) : List W := (c.map ltT).map W.cl
theorem crowdW_len (c : List Ltr) : (crowdW c).length = c.length := by simp [crowdW]
theorem crowdW_snoc (c : List Ltr) (s : Nat) (r : List Int) : crowdW c ++ [W.cl (.tup [.int s, .tup (r.map T.int)])] = crowdW (c ++ [(s, r)]) := by simp [crowdW, ltT]
theorem crowdW_get {c : List Ltr} {k : Nat} {l : Ltr} (h : c[k]? = some l) : (crowdW c)[k]? = some (W.cl (ltT l)) := by simp [crowdW, h]
def OnNet (n : Nat) (near : List (List Int)) (l : Ltr) : Prop := l.1 ≤ 6 ∧ ∃ u v pre, l.2 = pre ++ [v] ∧ Rt n near u v pre v
structure CrowdRow (m : Nat) (row : List Int) : Prop where
  m8 : m ≤ 8
  r0 : row[0]? = some (m : Int)
  rk : ∀ k, k < 26 → ∃ x, row[k]? = some x ∧ 0 ≤ x
  rs : ∀ k, k < 8 → ∃ x, row[4 + 3 * k]? = some x ∧ 0 ≤ x ∧ x < 8
theorem p_crowd {n : Nat} {near : List (List Int)} (hn : Near n near) (n1 : 1 ≤ n) (con : ∀ u v : Int, 0 ≤ u → u < n → 0 ≤ v → v < n → Rch near [] u v) {m : Nat} {row : List Int} (hr : CrowdRow m row) :
    ∃ crowd : List Ltr, crowd.length = m ∧ (∀ l ∈ crowd, OnNet n near l) ∧ g_law_crowd [.lst (near.map rowT), .lst (row.map .int)] = some (.lst (crowd.map ltT)) := by
  have np : (0 : Int) < (n : Int) := by omega
  have b3 := bmi (j := 3) (by decide)
  have d7 := dvi (j := 7) (by decide)
  have z7 : (0 : Int) < 7 := by decide
  obtain ⟨r1, hr1, r10⟩ := hr.rk 1 (by omega)
  obtain ⟨r2, hr2, r20⟩ := hr.rk 2 (by omega)
  obtain ⟨ρ', cs', e, crowd, o1, o2, o3, o4, o5, o6, h1, h2, hlen, hon⟩ := for_rng0 (mg := mgName 4) (mb := L1_law_crowd) (n := m)
    (fun k ρ cs => ∃ crowd o1 o2 o3 o4 o5 o6, cs = [.lst (crowdW crowd)] ∧ ρ = [some (.cl (.lst (near.map rowT))), some (.cl (.lst (row.map T.int))), some (.cl (.int n)), some (.pt 0), o1, o2, o3, o4, o5, o6] ∧ crowd.length = k ∧ ∀ l ∈ crowd, OnNet n near l)
    (fun k ρ cs hk ⟨crowd, o1, o2, o3, o4, o5, o6, h1, h2, hlen, hon⟩ => by
      subst h1 h2
      have hk8 : k < 8 := by have := hr.m8; omega
      obtain ⟨x0, hx0, x00⟩ := hr.rk (2 + 3 * k) (by omega)
      obtain ⟨x1, hx1, x10⟩ := hr.rk (2 + 3 * k + 1) (by omega)
      obtain ⟨x2, hx2, x20, x21⟩ := hr.rs k hk8
      have c0 : (2 : Int) + 3 * (k : Int) = ((2 + 3 * k : Nat) : Int) := by omega
      have c1 : ((2 + 3 * k : Nat) : Int) + 1 = ((2 + 3 * k + 1 : Nat) : Int) := by omega
      have c2 : ((2 + 3 * k : Nat) : Int) + 2 = ((4 + 3 * k : Nat) : Int) := by omega
      have u0 := Int.emod_nonneg (x1 / 7) (show (n : Int) ≠ 0 by omega)
      have u1 := Int.emod_lt_of_pos (x1 / 7) np
      have v0 := Int.emod_nonneg x1 (show (n : Int) ≠ 0 by omega)
      have v1 := Int.emod_lt_of_pos x1 np
      generalize hu : x1 / 7 % (n : Int) = u at u0 u1
      generalize hv : x1 % (n : Int) = v at v0 v1
      -- another goal
      obtain ⟨v', v0', v1', eI1⟩ : ∃ v' : Int, 0 ≤ v' ∧ v' < n ∧ ∀ o4 o5, I1_law_crowd [some (.cl (.lst (near.map rowT))), some (.cl (.lst (row.map T.int))), some (.cl (.int n)), some (.pt 0), some (.cl (.int k)), some (.cl (.int ((2 + 3 * k : Nat) : Int))), some (.cl (.int u)), some (.cl (.int v)), o4, o5] [.lst (crowdW crowd)] =
          .ok (.nx [some (.cl (.lst (near.map rowT))), some (.cl (.lst (row.map T.int))), some (.cl (.int n)), some (.pt 0), some (.cl (.int k)), some (.cl (.int ((2 + 3 * k : Nat) : Int))), some (.cl (.int u)), some (.cl (.int v')), o4, o5]) [.lst (crowdW crowd)] := by
        by_cases q1 : u = v
        · by_cases q2 : (1 : Int) < n
          · by_cases q3 : 1 < x2
            · have np1 : (0 : Int) < (n : Int) - 1 := by omega
              refine ⟨(u + 1 + x0 % ((n : Int) - 1)) % n, Int.emod_nonneg _ (by omega), Int.emod_lt_of_pos _ np, fun o4 o5 => ?_⟩
              have e1 : decide (u = v) = true := decide_eq_true q1
              have e2 : decide ((1 : Int) < n) = true := decide_eq_true q2
              have e3 : decide (1 < x2) = true := decide_eq_true q3
              simp only [I1_law_crowd, ↓bindM, ev, ef, ↓reduceIte, el, e1, e2, e3, c2, gx_nat, ints_get hx2, ints_get hx0, np1, np]
            · refine ⟨v, v0, v1, fun o4 o5 => ?_⟩
              have e1 : decide (u = v) = true := decide_eq_true q1
              have e2 : decide ((1 : Int) < n) = true := decide_eq_true q2
              have e3 : decide (1 < x2) = false := decide_eq_false q3
              simp only [I1_law_crowd, ↓bindM, ev, ef, ↓reduceIte, el, e1, e2, e3, c2, gx_nat, ints_get hx2]
          · refine ⟨v, v0, v1, fun o4 o5 => ?_⟩
            have e1 : decide (u = v) = true := decide_eq_true q1
            have e2 : decide ((1 : Int) < n) = false := decide_eq_false q2
            simp only [I1_law_crowd, ↓bindM, ev, ef, ↓reduceIte, el, e1, e2]
        · refine ⟨v, v0, v1, fun o4 o5 => ?_⟩
          have e1 : decide (u = v) = false := decide_eq_false q1
          simp only [I1_law_crowd, ↓bindM, ev, ef, ↓reduceIte, el, e1]
      -- all the same way
      obtain ⟨u2, v2, num, u20, u21, v20, v21, eI2⟩ : ∃ u2 v2 num : Int, 0 ≤ u2 ∧ u2 < n ∧ 0 ≤ v2 ∧ v2 < n ∧ ∀ o5, I2_law_crowd [some (.cl (.lst (near.map rowT))), some (.cl (.lst (row.map T.int))), some (.cl (.int n)), some (.pt 0), some (.cl (.int k)), some (.cl (.int ((2 + 3 * k : Nat) : Int))), some (.cl (.int u)), some (.cl (.int v')), some (.cl (.int x0)), o5] [.lst (crowdW crowd)] =
          .ok (.nx [some (.cl (.lst (near.map rowT))), some (.cl (.lst (row.map T.int))), some (.cl (.int n)), some (.pt 0), some (.cl (.int k)), some (.cl (.int ((2 + 3 * k : Nat) : Int))), some (.cl (.int u2)), some (.cl (.int v2)), some (.cl (.int num)), o5]) [.lst (crowdW crowd)] := by
        by_cases q1 : r1 = 1
        · by_cases q2 : (0 : Int) < k
          · have hc0 : crowd[0]? = some (crowd[0]'(by omega)) := List.getElem?_eq_getElem _
            obtain ⟨s6, a, b, pre, er, rt⟩ := hon _ (List.mem_of_getElem? hc0)
            generalize (crowd[0]'(by omega)) = l0 at hc0 s6 er
            obtain ⟨s, r⟩ := l0
            dsimp only at er s6
            subst er
            obtain ⟨b0, b1⟩ := rt.nod b (by simp)
            obtain ⟨a0, a1⟩ := rt.nod a (List.mem_of_getElem? rt.st)
            refine ⟨a, b, r2, a0, a1, b0, b1, fun o5 => ?_⟩
            have e1 : decide (r1 = 1) = true := decide_eq_true q1
            have e2 : decide ((0 : Int) < k) = true := decide_eq_true q2
            have g0 := crowdW_get hc0
            have g1 : ((pre ++ [b]).map T.int)[0]? = some (T.int a) := ints_get rt.st
            have g2 : ((pre ++ [b]).map T.int).getLast? = some (T.int b) := by simp
            have ix2 : atI (row.map T.int) 2 = some (T.int r2) := by rw [show (2 : Int) = ((2 : Nat) : Int) from rfl, gx_nat]; exact ints_get hr2
            simp only [I2_law_crowd, ltT, ↓bindM, ev, ef, ↓reduceIte, el, ep, e1, e2, ints_get hr1, g0, g1, g2, ix2, ltT]
          · refine ⟨u, v', x0, u0, u1, v0', v1', fun o5 => ?_⟩
            have e1 : decide (r1 = 1) = true := decide_eq_true q1
            have e2 : decide ((0 : Int) < k) = false := decide_eq_false q2
            simp only [I2_law_crowd, ↓bindM, ev, ef, ↓reduceIte, el, e1, e2, ints_get hr1]
        · refine ⟨u, v', x0, u0, u1, v0', v1', fun o5 => ?_⟩
          have e1 : decide (r1 = 1) = false := decide_eq_false q1
          simp only [I2_law_crowd, ↓bindM, ev, ef, ↓reduceIte, el, e1, ints_get hr1]
      obtain ⟨pre, rt, eR⟩ := p_route hn con u20 u21 v20 v21 num
      obtain ⟨t, ht, hm⟩ := gx_in (xs := [T.int 0, .int 0, .int 0, .int 1, .int 2, .int 3, .int 6, .int 0]) x20 x21
      obtain ⟨s, rfl, s6⟩ : ∃ s : Nat, t = .int s ∧ s ≤ 6 := by
        simp only [List.mem_cons, List.not_mem_nil, or_false] at hm
        rcases hm with h | h | h | h | h | h | h | h
        · exact ⟨0, h, by omega⟩
        · exact ⟨0, h, by omega⟩
        · exact ⟨0, h, by omega⟩
        · exact ⟨1, h, by omega⟩
        · exact ⟨2, h, by omega⟩
        · exact ⟨3, h, by omega⟩
        · exact ⟨6, h, by omega⟩
        · exact ⟨0, h, by omega⟩
      have lim : (crowdW crowd).length < LIM := by rw [crowdW_len]; unfold LIM; omega
      have l8 : ((0 + 1 + 1 + 1 + 1 + 1 + 1 + 1 + 1 : Nat) ≤ LIM) = True := by unfold LIM; decide
      refine ⟨_, _, ?_, crowd ++ [(s, pre ++ [v2])], some (.cl (.int k)), some (.cl (.int ((2 + 3 * k : Nat) : Int))), some (.cl (.int u2)), some (.cl (.int v2)), some (.cl (.int num)), some (.cl (.int s)), rfl, rfl, by simp [hlen], fun l hl => ?_⟩
      · simp only [stepF, L1_law_crowd, ↓bindM, ev, ef, ↓reduceIte, el, ep, b3, c0, c1, c2, gx_nat, ints_get hx0, ints_get hx1, ints_get hx2, d7, z7, np, hu, hv, eI1, eI2, l8, ht, eR, lim2, lim, crowdW_snoc]
      · rcases List.mem_append.mp hl with hl | hl
        · exact hon l hl
        · have : l = (s, pre ++ [v2]) := by simpa using hl
          subst this
          exact ⟨s6, u2, v2, pre, rfl, rt⟩)
    (ρ := [some (.cl (.lst (near.map rowT))), some (.cl (.lst (row.map T.int))), some (.cl (.int n)), some (.pt 0), none, none, none, none, none, none]) (cs := [.lst (crowdW [])]) ⟨[], none, none, none, none, none, none, rfl, rfl, rfl, fun l hl => by cases hl⟩
  subst h1 h2
  have rm := rgi (j := (m : Int)) (by have := hr.m8; omega)
  have E := sfor_ok (mi := mRng1 (mCons (mOp fIx (mVar 1) (mC (.int 0))) mNil)) (cs := [.lst (crowdW [])]) (by simp only [↓bindM, ev, ef, ↓reduceIte, el, ints_get hr.r0, rm, Int.toNat_natCast]) e
  rw [← S1_law_crowd] at E
  have z : (0 ≤ LIM) = True := by unfold LIM; decide
  have c0 : crowdW [] = [] := rfl
  rw [c0] at E
  refine ⟨crowd, hlen, hon, run_rt (ρ := [some (.cl _), some (.cl _), none, none, none, none, none, none, none, none]) (cs := [.lst (crowdW crowd)]) rfl ?_ (frz_lst (n := 7) (i := 0) rfl)⟩
  simp only [m_law_crowd, ↓bindM, ev, ef, ↓reduceIte, el, ep, List.length_map, hn.len, z, List.nil_append, E]
end My

namespace My
open PySem L2 G
theorem cut_from {α : Type} (xs : List α) (k : Nat) : cutL xs (some (k : Int)) none = xs.drop k := by
  unfold cutL
  rw [HT.sIx_nat, HT.sIx_none]
  by_cases h : k ≤ xs.length
  · rw [Nat.min_eq_left h, List.take_of_length_le (by simp)]
  · rw [Nat.min_eq_right (by omega), List.drop_eq_nil_of_le (Nat.le_refl _), List.drop_eq_nil_of_le (by omega)]; simp
/-- the nodes of some blocks -/
def flat : List Int → List Int
  | [] => []
  | b :: bs => 3 * b :: (3 * b + 1) :: (3 * b + 2) :: flat bs
theorem flat_snoc (bs : List Int) (b : Int) : flat bs ++ [3 * b, 3 * b + 1, 3 * b + 2] = flat (bs ++ [b]) := by
  induction bs with
  | nil => rfl
  | cons x bs ih => simp only [flat, List.cons_append, ih]
theorem flat_len (bs : List Int) : (flat bs).length = 3 * bs.length := by
  induction bs with
  | nil => rfl
  | cons x bs ih => simp only [flat, List.length_cons, ih]; omega
theorem flat_mem {bs : List Int} {x : Int} : x ∈ flat bs ↔ ∃ b ∈ bs, x = 3 * b ∨ x = 3 * b + 1 ∨ x = 3 * b + 2 := by
  induction bs with
  | nil => simp [flat]
  | cons y bs ih =>
    simp only [flat, List.mem_cons, ih]
    constructor
    · rintro (h | h | h | ⟨b, hb, h⟩)
      · exact ⟨y, .inl rfl, .inl h⟩
      · exact ⟨y, .inl rfl, .inr (.inl h)⟩
      · exact ⟨y, .inl rfl, .inr (.inr h)⟩
      · exact ⟨b, .inr hb, h⟩
    · rintro ⟨b, rfl | hb, h⟩
      · rcases h with h | h | h
        · exact .inl h
        · exact .inr (.inl h)
        · exact .inr (.inr (.inl h))
      · exact .inr (.inr (.inr ⟨b, hb, h⟩))
theorem flat_nodup {bs : List Int} (h : bs.Nodup) : (flat bs).Nodup := by
  induction bs with
  | nil => simp [flat]
  | cons x bs ih =>
    rw [List.nodup_cons] at h
    have i := ih h.2
    have hn : ∀ y, (y = 3 * x ∨ y = 3 * x + 1 ∨ y = 3 * x + 2) → y ∉ flat bs := by
      intro y hy hm
      obtain ⟨b, hb, hy2⟩ := flat_mem.mp hm
      have : b = x := by omega
      subst this
      exact h.1 hb
    simp only [flat, List.nodup_cons, List.mem_cons, not_or]
    exact ⟨⟨by omega, by omega, hn _ (.inl rfl)⟩, ⟨by omega, hn _ (.inr (.inl rfl))⟩, hn _ (.inr (.inr rfl)), i⟩
def Stretch (l : Ltr) : Prop := l.1 ≤ 6 ∧ ∃ (blocks : List Int) (cut : Nat), blocks.Nodup ∧ (∀ b ∈ blocks, 0 ≤ b ∧ b < 4) ∧ 2 ≤ blocks.length ∧ blocks.length ≤ 4 ∧ cut ≤ 2 ∧ l.2 = (flat blocks).drop cut
theorem snoc_at {α : Type} (g : List α) (c : α) : (g ++ [c])[g.length]? = some c := by simp
theorem snoc_set {α : Type} (g : List α) (c d : α) : (g ++ [c]).set g.length d = g ++ [d] := by rw [List.set_append_right _ _ (Nat.le_refl _)]; simp
theorem st_inner {a : Cell} {g : Cs} {m : Nat} {row : List Int} {at_ k : W} {n4 : Nat} (h4 : n4 ≤ 4) (code0 : Int) (o7 o8 o9 : Option W) (hm : forall cs, mRng1 (mCons (mOp fIx (mLst false (mCons (mC (.int 4)) (mCons (mC (.int 3)) (mCons (mC (.int 4)) (mCons (mC (.int 2)) (mCons (mC (.int 3)) (mCons (mC (.int 4)) mNil))))))) (mOp fIx (mVar 0) (mVar 3))) mNil) [some (.cl (.lst (row.map T.int))), some (.pt 0), some k, some at_, some (.cl (.int code0)), some (.pt (g.length + 1)), some (.cl (.lst [])), o7, o8, o9] cs = .ok (rangeT 0 n4) cs) :
    ∃ (code : Int) (bs left : List Int) (o7' o8' : Option W), bs.Nodup ∧ (∀ b ∈ bs, 0 ≤ b ∧ b < 4) ∧ bs.length = n4 ∧
      S2_law_stretches [some (.cl (.lst (row.map T.int))), some (.pt 0), some k, some at_, some (.cl (.int code0)), some (.pt (g.length + 1)), some (.cl (.lst [])), o7, o8, o9] (a :: (g ++ [.lst (digW [0, 1, 2, 3])])) =
        .ok (.nx [some (.cl (.lst (row.map T.int))), some (.pt 0), some k, some at_, some (.cl (.int code)), some (.pt (g.length + 1)), some (.cl (.lst ((flat bs).map T.int))), o7', o8', o9]) (a :: (g ++ [.lst (digW left)])) := by
  obtain ⟨ρ', cs', e, code, bs, left, o7', o8', rfl, rfl, hp, hl⟩ := for_rng0 (mg := mgName 7) (mb := L2_law_stretches) (n := n4)
    (fun i ρ cs => ∃ code bs left o7 o8, cs = a :: (g ++ [.lst (digW left)]) ∧ ρ = [some (.cl (.lst (row.map T.int))), some (.pt 0), some k, some at_, some (.cl (.int code)), some (.pt (g.length + 1)), some (.cl (.lst ((flat bs).map T.int))), o7, o8, o9] ∧ (bs ++ left).Perm [0, 1, 2, 3] ∧ bs.length = i)
    (fun i ρ cs hi ⟨code, bs, left, o7, o8, h1, h2, hp, hl⟩ => by
      subst h1 h2
      have ll : left.length = 4 - i := by
        have := hp.length_eq
        rw [List.length_append] at this
        simp at this; omega
      have lp : (0 : Int) < (left.length : Nat) := by omega
      obtain ⟨q, hq⟩ := Int.eq_ofNat_of_zero_le (Int.emod_nonneg code (show (left.length : Int) ≠ 0 by omega))
      have hq1 := Int.emod_lt_of_pos code lp
      rw [hq] at hq1
      have hql : q < left.length := by omega
      have pq := ppi (j := (q : Int)) (by omega)
      have b3 := bmi (j := 3) (by decide)
      have d4 := dvi (j := 4) (by decide)
      have z4 : (0 : Int) < 4 := by decide
      have l3 : ((0 + 1 + 1 + 1 : Nat) ≤ LIM) = True := by unfold LIM; decide
      have lr : (((flat bs).map T.int).length + (0 + 1 + 1 + 1) ≤ LIM) = True := by rw [List.length_map, flat_len]; unfold LIM; simp; omega
      have fs : (flat bs).map T.int ++ [T.int (3 * left[q]), T.int (3 * left[q] + 1), T.int (3 * left[q] + 2)] = (flat (bs ++ [left[q]])).map T.int := by rw [← flat_snoc]; simp
      refine ⟨_, _, ?_, code / 4, bs ++ [left[q]], left.eraseIdx q, some (.cl (.int i)), some (.cl (.int left[q])), rfl, rfl, ?_, by simp [hl]⟩
      · simp only [stepF, L2_law_stretches, ↓bindM, ev, ef, ↓reduceIte, el, ep, snoc_at, snoc_set, digW_len, lp, hq, pq, gx_ix hql, digW_get (List.getElem?_eq_getElem hql), digW_erase, d4, z4, b3, l3, lr, fs]
      · rw [List.append_assoc]
        exact (List.Perm.append_left _ (perm_erase left q hql)).trans hp)
    (ρ := [some (.cl (.lst (row.map T.int))), some (.pt 0), some k, some at_, some (.cl (.int code0)), some (.pt (g.length + 1)), some (.cl (.lst [])), o7, o8, o9]) (cs := a :: (g ++ [.lst (digW [0, 1, 2, 3])])) ⟨code0, [], [0, 1, 2, 3], o7, o8, rfl, rfl, List.Perm.refl _, rfl⟩
  refine ⟨code, bs, left, o7', o8', ?_, fun b hb => ?_, hl, sfor_ok (hm _) e⟩
  · have nd : (bs ++ left).Nodup := hp.nodup_iff.mpr (by decide)
    exact (List.nodup_append.mp nd).1
  · have := hp.mem_iff.mp (List.mem_append_left left hb)
    simp at this
    omega
structure StRow (m : Nat) (row : List Int) : Prop where
  m8 : m ≤ 9
  r0 : row[0]? = some (m : Int)
  rk : ∀ k, k < m → ∃ a b c, row[1 + 3 * k]? = some a ∧ row[2 + 3 * k]? = some b ∧ row[3 + 3 * k]? = some c ∧ 0 ≤ a ∧ a < 6 ∧ 0 ≤ c ∧ c < 5
theorem p_stretches {m : Nat} {row : List Int} (hr : StRow m row) : ∃ crowd : List Ltr, crowd.length = m ∧ (∀ l ∈ crowd, Stretch l) ∧ g_law_stretches [.lst (row.map .int)] = some (.lst (crowd.map ltT)) := by
  have b3 := bmi (j := 3) (by decide)
  obtain ⟨ρ', cs', e, crowd, g, o2, o3, o4, o5, o6, o7, o8, o9, h1, h2, hlen, hon⟩ := for_rng0 (mg := mgName 2) (mb := L1_law_stretches) (n := m)
    (fun k ρ cs => ∃ crowd g o2 o3 o4 o5 o6 o7 o8 o9, cs = .lst (crowdW crowd) :: g ∧ ρ = [some (.cl (.lst (row.map T.int))), some (.pt 0), o2, o3, o4, o5, o6, o7, o8, o9] ∧ crowd.length = k ∧ ∀ l ∈ crowd, Stretch l)
    (fun k ρ cs hk ⟨crowd, g, o2, o3, o4, o5, o6, o7, o8, o9, h1, h2, hlen, hon⟩ => by
      subst h1 h2
      have hk8 : k < 9 := by have := hr.m8; omega
      obtain ⟨a, b, c, ha, hb, hc, a0, a6, c0, c5⟩ := hr.rk k hk
      have e0 : (1 : Int) + 3 * (k : Int) = ((1 + 3 * k : Nat) : Int) := by omega
      have e1 : ((1 + 3 * k : Nat) : Int) + 1 = ((2 + 3 * k : Nat) : Int) := by omega
      have e2 : ((1 + 3 * k : Nat) : Int) + 2 = ((3 + 3 * k : Nat) : Int) := by omega
      obtain ⟨t, ht, hm⟩ := gx_in (xs := [T.int 4, .int 3, .int 4, .int 2, .int 3, .int 4]) a0 a6
      obtain ⟨n4, rfl, n42, n44⟩ : ∃ s : Nat, t = .int s ∧ 2 ≤ s ∧ s ≤ 4 := by
        simp only [List.mem_cons, List.not_mem_nil, or_false] at hm
        rcases hm with h | h | h | h | h | h
        · exact ⟨4, h, by omega, by omega⟩
        · exact ⟨3, h, by omega, by omega⟩
        · exact ⟨4, h, by omega, by omega⟩
        · exact ⟨2, h, by omega, by omega⟩
        · exact ⟨3, h, by omega, by omega⟩
        · exact ⟨4, h, by omega, by omega⟩
      obtain ⟨t2, ht2, hm2⟩ := gx_in (xs := [T.int 0, .int 3, .int 6, .int 3, .int 1]) c0 c5
      obtain ⟨s, rfl, s6⟩ : ∃ s : Nat, t2 = .int s ∧ s ≤ 6 := by
        simp only [List.mem_cons, List.not_mem_nil, or_false] at hm2
        rcases hm2 with h | h | h | h | h
        · exact ⟨0, h, by omega⟩
        · exact ⟨3, h, by omega⟩
        · exact ⟨6, h, by omega⟩
        · exact ⟨3, h, by omega⟩
        · exact ⟨1, h, by omega⟩
      have l6 : ((0 + 1 + 1 + 1 + 1 + 1 + 1 : Nat) ≤ LIM) = True := by unfold LIM; decide
      have l5 : ((0 + 1 + 1 + 1 + 1 + 1 : Nat) ≤ LIM) = True := by unfold LIM; decide
      have l4 : ((0 + 1 + 1 + 1 + 1 : Nat) ≤ LIM) = True := by unfold LIM; decide
      have z : (0 ≤ LIM) = True := by unfold LIM; decide
      have r4 := rgi (j := (n4 : Int)) (by omega)
      obtain ⟨code, bs, left, o7', o8', nd, hb4, hbl, eS⟩ := st_inner (a := .lst (crowdW crowd)) (g := g) (m := m) (row := row) (k := .cl (.int k)) (at_ := .cl (.int ((1 + 3 * k : Nat) : Int))) n44 b o7 o8 o9 (fun cs => by
        simp only [↓bindM, ev, ef, ↓reduceIte, el, gx_nat, ints_get ha, l6, ht, r4, Int.toNat_natCast])
      have dW : digW [0, 1, 2, 3] = [W.cl (.int 0), W.cl (.int 1), W.cl (.int 2), W.cl (.int 3)] := rfl
      rw [dW] at eS
      have z6 : (0 : Int) < 6 := by decide
      obtain ⟨cut, hcut, hc2⟩ : ∃ cut : Nat, (if code % 6 - 3 > 0 then code % 6 - 3 else 0) = (cut : Int) ∧ cut ≤ 2 := by
        have h1 := Int.emod_nonneg code (show (6 : Int) ≠ 0 by decide)
        have h2 := Int.emod_lt_of_pos code z6
        by_cases h : code % 6 - 3 > 0
        · rw [if_pos h]; exact ⟨(code % 6 - 3).toNat, by omega, by omega⟩
        · rw [if_neg h]; exact ⟨0, rfl, by omega⟩
      have cf : cutL ((flat bs).map T.int) (some (cut : Int)) none = (((flat bs).drop cut)).map T.int := by rw [cut_from, List.map_drop]
      have lim : (crowdW crowd).length < LIM := by rw [crowdW_len]; unfold LIM; omega
      refine ⟨_, _, ?_, crowd ++ [(s, (flat bs).drop cut)], g ++ [.lst (digW left)], some (.cl (.int k)), some (.cl (.int ((1 + 3 * k : Nat) : Int))), some (.cl (.int code)), some (.pt (g.length + 1)), some (.cl (.lst ((flat bs).map T.int))), o7', o8', some (.cl (.int cut)), rfl, rfl, by simp [hlen], fun l hl => ?_⟩
      · simp only [stepF, L1_law_stretches, ↓bindM, ev, ef, ↓reduceIte, el, ep, b3, e0, e1, e2, gx_nat, ints_get hb, ints_get hc, l4, l5, z, List.cons_append, eS, z6, hcut, cf, ht2, lim2, lim, crowdW_snoc]
      · rcases List.mem_append.mp hl with hl | hl
        · exact hon l hl
        · have : l = (s, (flat bs).drop cut) := by simpa using hl
          subst this
          exact ⟨s6, bs, cut, nd, hb4, by omega, by omega, hc2, rfl⟩)
    (ρ := [some (.cl (.lst (row.map T.int))), some (.pt 0), none, none, none, none, none, none, none, none]) (cs := [.lst (crowdW [])]) ⟨[], [], none, none, none, none, none, none, none, none, rfl, rfl, rfl, fun l hl => by cases hl⟩
  subst h1 h2
  have rm := rgi (j := (m : Int)) (by have := hr.m8; omega)
  have E := sfor_ok (mi := mRng1 (mCons (mOp fIx (mVar 0) (mC (.int 0))) mNil)) (cs := [.lst (crowdW [])]) (by simp only [↓bindM, ev, ef, ↓reduceIte, el, ints_get hr.r0, rm, Int.toNat_natCast]) e
  rw [← S1_law_stretches] at E
  have z : (0 ≤ LIM) = True := by unfold LIM; decide
  have c0 : crowdW [] = [] := rfl
  rw [c0] at E
  refine ⟨crowd, hlen, hon, run_rt (ρ := [some (.cl _), none, none, none, none, none, none, none, none, none]) (cs := .lst (crowdW crowd) :: g) rfl ?_ (frz_lst (n := 7) (i := 0) rfl)⟩
  simp only [m_law_stretches, ↓bindM, ev, ef, ↓reduceIte, el, ep, z, List.nil_append, E]
end My

namespace My
open PySem L2 G
def rname (nm : Int → Int) (l : Ltr) : Ltr := (l.1, l.2.map nm)
def nmOf (s x : Int) : Int := (x * 7 + s) % 24
theorem nmOf_in (s x : Int) : 0 ≤ nmOf s x ∧ nmOf s x < 24 := by unfold nmOf; omega
theorem nmOf_inj {s x y : Int} (x0 : 0 ≤ x) (x1 : x < 24) (y0 : 0 ≤ y) (y1 : y < 24) (h : nmOf s x = nmOf s y) : x = y := by unfold nmOf at h; omega
theorem lLim {n : Nat} (h : n ≤ 100000) : n ≤ LIM := by unfold LIM; omega
theorem p_named (crowd : List Ltr) (s : Int) (hc : crowd.length ≤ 1000) (hl : ∀ l ∈ crowd, l.2.length ≤ 1000 ∧ ∀ x ∈ l.2, 0 ≤ x ∧ x < 24) : g_law_named [.lst (crowd.map ltT), .int s] = some (.lst ((crowd.map (rname (nmOf s))).map ltT)) := by
  have r24 : inB 3999999999999 24 = true := by decide
  have b7 := bmi (j := 7) (by decide)
  have z24 : (0 : Int) < 24 := by decide
  have n24 : Int.toNat 24 = 24 := rfl
  have eC1 : C1_law_named [some (.cl (.lst (crowd.map ltT))), some (.cl (.int s)), none, none, none, none] [] = .ok (.cl (.lst (((iotaI 24).map (nmOf s)).map T.int))) [] := by
    unfold C1_law_named
    refine mlc_all T.int T.int (nmOf s) (iotaI 24) (by simp only [↓bindM, ev, ef, ↓reduceIte, el, r24, n24, rangeT0]) (lLim (by rw [iotaI_len]; omega)) fun x hx => ⟨_, rfl, ?_⟩
    simp only [E1_law_named, ↓bindM, ev, ef, ↓reduceIte, el, b7, z24, nmOf]
  have eC3 : C3_law_named [some (.cl (.lst (crowd.map ltT))), some (.cl (.int s)), some (.cl (.lst (((iotaI 24).map (nmOf s)).map T.int))), none, none, none] [] = .ok (.cl (.lst ((crowd.map (rname (nmOf s))).map ltT))) [] := by
    unfold C3_law_named
    refine mlc_all ltT ltT (rname (nmOf s)) crowd (by simp only [↓bindM, ev, ef, el]) (lLim (by omega)) fun l hlm => ⟨_, rfl, ?_⟩
    obtain ⟨h1, h2⟩ := hl l hlm
    obtain ⟨st, r⟩ := l
    dsimp only at h1 h2
    have eC2 : C2_law_named [some (.cl (.lst (crowd.map ltT))), some (.cl (.int s)), some (.cl (.lst (((iotaI 24).map (nmOf s)).map T.int))), none, some (.cl (ltT (st, r))), none] [] = .ok (.cl (.lst ((r.map (nmOf s)).map T.int))) [] := by
      unfold C2_law_named
      refine mlc_all T.int T.int (nmOf s) r (by simp only [ltT, ↓bindM, ev, ef, el]) (lLim (by omega)) fun x hx => ⟨_, rfl, ?_⟩
      obtain ⟨x0, x1⟩ := h2 x hx
      obtain ⟨q, rfl⟩ := Int.eq_ofNat_of_zero_le x0
      have g : (((iotaI 24).map (nmOf s)).map T.int)[q]? = some (T.int (nmOf s q)) := by
        have hq : q < 24 := by omega
        simp only [iotaI, List.getElem?_map, List.getElem?_range hq, Option.map_some]
      simp only [E2_law_named, ↓bindM, ev, ef, el, gx_nat, g]
    simp only [E3_law_named, ↓bindM, ev, ef, ↓reduceIte, el, eC2, lim2, ltT]
    simp only [ltT] at eC2
    simp only [↓bindM, ev, ef, ↓reduceIte, el, eC2, lim2, rname]
  refine run_cl (ρ := [some (.cl _), some (.cl _), none, none, none, none]) (cs := []) rfl ?_
  simp only [m_law_named, ↓bindM, ev, ef, el, eC1, eC3]
end My

namespace My
open PySem L2 G
def again (crowd : List Ltr) (k : Nat) : Ltr := ((crowd[k % crowd.length]?.getD (0, [])).1 + k / crowd.length % 4, (crowd[k % crowd.length]?.getD (0, [])).2)
theorem p_many (crowd : List Ltr) (n : Nat) (hc : crowd.length ≤ 1000) (hn : n ≤ 1000) : g_law_many [.lst (crowd.map ltT), .int n] = some (.lst ((if crowd = [] then [] else (List.range n).map (again crowd)).map ltT)) := by
  have rn := rgi (j := (n : Int)) (by omega)
  by_cases hz : crowd = []
  · subst hz
    rw [if_pos rfl]
    refine run_cl (ρ := [some (.cl _), some (.cl _), none, none]) (cs := []) rfl ?_
    have z : (0 ≤ LIM) = True := by unfold LIM; decide
    have e0 : decide (((0 : Nat) : Int) = 0) = true := by decide
    simp only [m_law_many, ↓bindM, ev, ef, ↓reduceIte, el, e0, z]
  · rw [if_neg hz]
    have lp : 0 < crowd.length := List.length_pos_iff.mpr hz
    have e0 : decide ((crowd.length : Int) = 0) = false := decide_eq_false (by omega)
    have dv := dvi (j := (crowd.length : Int)) (by omega)
    have lpi : (0 : Int) < (crowd.length : Int) := by omega
    have z4 : (0 : Int) < 4 := by decide
    have eC1 : C1_law_many [some (.cl (.lst (crowd.map ltT))), some (.cl (.int n)), none, none] [] = .ok (.cl (.lst (((List.range n).map fun k => ((k / crowd.length % 4 : Nat) : Int)).map T.int))) [] := by
      unfold C1_law_many
      refine mlc_all (fun (k : Nat) => T.int k) T.int (fun k => ((k / crowd.length % 4 : Nat) : Int)) (List.range n) (by simp only [↓bindM, ev, ef, ↓reduceIte, el, rn, Int.toNat_natCast, rangeT, Int.zero_add]) (lLim (by simp; omega)) fun k hk => ⟨_, rfl, ?_⟩
      simp only [E1_law_many, ↓bindM, ev, ef, ↓reduceIte, el, List.length_map, lpi, dv, z4]
      simp
    have eC2 : C2_law_many [some (.cl (.lst (crowd.map ltT))), some (.cl (.int n)), some (.cl (.lst (((List.range n).map fun k => ((k / crowd.length % 4 : Nat) : Int)).map T.int))), none] [] = .ok (.cl (.lst (((List.range n).map (again crowd)).map ltT))) [] := by
      unfold C2_law_many
      refine mlc_all (fun (k : Nat) => T.int k) ltT (again crowd) (List.range n) (by simp only [↓bindM, ev, ef, ↓reduceIte, el, rn, Int.toNat_natCast, rangeT, Int.zero_add]) (lLim (by simp; omega)) fun k hk => ⟨_, rfl, ?_⟩
      have hk := List.mem_range.mp hk
      have hm : k % crowd.length < crowd.length := Nat.mod_lt _ lp
      have g1 : (crowd.map ltT)[k % crowd.length]? = some (ltT crowd[k % crowd.length]) := by rw [List.getElem?_map, List.getElem?_eq_getElem hm]; rfl
      have g2 : (((List.range n).map fun k => ((k / crowd.length % 4 : Nat) : Int)).map T.int)[k]? = some (T.int ((k / crowd.length % 4 : Nat) : Int)) := by
        rw [List.getElem?_map, List.getElem?_map, List.getElem?_range hk]; rfl
      have cm : ((k : Int) % (crowd.length : Int)) = ((k % crowd.length : Nat) : Int) := by simp
      simp only [E2_law_many, ↓bindM, ev, ef, ↓reduceIte, el, List.length_map, lpi, cm, gx_nat, g1, g2, ltT, lim2, again, List.getElem?_eq_getElem hm, Option.getD_some]
      simp
    refine run_cl (ρ := [some (.cl _), some (.cl _), none, none]) (cs := []) rfl ?_
    simp only [m_law_many, ↓bindM, ev, ef, ↓reduceIte, el, List.length_map, e0, eC1, eC2]
end My

namespace My
open PySem L2 G
theorem ei :
    (∀ a b m ρ cs, mIsi2 a b m ρ cs = (m ρ cs).bind fun x cs1 => match tyN cs1 x with | some n => (match isiB n a, isiB n b with | some p, some q => R.ok (W.cl (T.bl (p || q))) cs1 | _, _ => R.no) | none => R.no) ∧
    (∀ cs i, tyN cs (W.cl (T.int i)) = some "int") ∧ (∀ cs i, tyN cs (W.cl (T.tup i)) = some "tuple") ∧ (∀ cs i, tyN cs (W.cl (T.lst i)) = some "list") ∧ (∀ cs i, tyN cs (W.cl (T.bl i)) = some "bool") ∧
    (∀ cs x n, fIsi [x, W.cl (T.ty n)] cs = match tyN cs x with | some a => (match isiB a n with | some b => R.ok (W.cl (T.bl b)) cs | none => R.no) | none => R.no) ∧
    isiB "int" "list" = some false ∧ isiB "int" "tuple" = some false ∧ isiB "tuple" "list" = some false ∧ isiB "tuple" "tuple" = some true ∧ isiB "list" "list" = some true ∧ isiB "list" "tuple" = some false ∧ isiB "int" "str" = some false ∧ isiB "int" "bool" = some false ∧ isiB "int" "int" = some true ∧
    (false || true) = true ∧ (true || false) = true ∧ (false || false) = false ∧
    (∀ i b cs, fIsB false (W.cl (T.int i)) (W.cl (T.bl b)) cs = R.ok (W.cl (T.bl false)) cs) := by
  refine ⟨?_, ?_, ?_, ?_, ?_, ?_, ?_, ?_, ?_, ?_, ?_, ?_, ?_, ?_, ?_, ?_, ?_, ?_, ?_⟩ <;> intros
  case refine_6 => simp only [fIsi]; try rfl
  case refine_7 => decide +kernel
  case refine_8 => decide +kernel
  case refine_9 => decide +kernel
  case refine_10 => decide +kernel
  case refine_11 => decide +kernel
  case refine_12 => decide +kernel
  case refine_13 => decide +kernel
  case refine_14 => decide +kernel
  case refine_15 => decide +kernel
  all_goals rfl
end My

namespace My
open PySem L2 G
/-- tuples and lists of ints, at most n deep, none too long -/
inductive Fin : Nat → T → Prop
  | int (n : Nat) (i : Int) : Fin n (.int i)
  | tup {n : Nat} {ts : List T} : ts.length ≤ LIM → (∀ t ∈ ts, Fin n t) → Fin (n + 1) (.tup ts)
  | lst {n : Nat} {ts : List T} : ts.length ≤ LIM → (∀ t ∈ ts, Fin n t) → Fin (n + 1) (.lst ts)
/-- all lists made tuples -/
def frT : Nat → T → T
  | n + 1, .tup ts => .tup (ts.map (frT n))
  | n + 1, .lst ts => .tup (ts.map (frT n))
  | _, t => t
theorem frz_int (gr : List T → Option T) (i : Int) : runT 2 (m_frozen gr) [.int i] = some (.int i) := by
  refine run_cl (ρ := [some (.cl _), none]) (cs := []) rfl ?_
  simp only [m_frozen, ↓bindM, ev, ef, ↓reduceIte, el, ei]
theorem frz_seq {gr : List T → Option T} {ts : List T} {n : Nat} (w : T) (hw : w = .tup ts ∨ w = .lst ts) (hl : ts.length ≤ LIM) (h : ∀ t ∈ ts, gr [t] = some (frT n t)) : runT 2 (m_frozen gr) [w] = some (.tup (ts.map (frT n))) := by
  have eC : C1_frozen gr [some (.cl w), none] [] = .ok (.cl (.lst ((ts.map (frT n)).map id))) [] := by
    refine mlc_all (vs := [1]) (mi := mSeq (mVar 0)) (mg := mgName 1) (me := E1_frozen gr) (ρ := [some (.cl w), none]) (cs := []) (cs1 := []) id id (frT n) ts (by rcases hw with rfl | rfl <;> simp only [↓bindM, ev, ef, el, List.map_id]) hl fun t ht => ⟨_, rfl, ?_⟩
    have := h t ht
    simp only [E1_frozen, ↓bindM, ev, ef, ↓reduceIte, el, ei, id, this, ite_self]
  rw [List.map_id] at eC
  refine run_cl (ρ := [some (.cl _), none]) (cs := []) rfl ?_
  rcases hw with rfl | rfl <;>
  simp only [m_frozen, ↓bindM, ev, ef, ↓reduceIte, el, ei, eC]
theorem frT_int (n : Nat) (i : Int) : frT n (.int i) = .int i := by cases n <;> rfl
theorem h_frz : ∀ (n : Nat) (t : T), Fin n t → h_frozen (n + 1) [t] = some (frT n t) := by
  intro n
  induction n with
  | zero =>
    intro t h
    cases h
    exact frz_int _ _
  | succ n ih =>
    intro t h
    cases h with
    | int => exact frz_int _ _
    | tup h1 h2 => exact frz_seq _ (.inl rfl) h1 fun t ht => ih t (h2 t ht)
    | lst h1 h2 => exact frz_seq _ (.inr rfl) h1 fun t ht => ih t (h2 t ht)
end My

namespace My
open PySem L2 G
def bT (b : List Int) : T := .tup (b.map T.int)
def lastOr (c : Int) : List Int → Int
  | [] => c
  | x :: xs => lastOr (x + 1) xs
theorem lastOr_snoc (c : Int) (xs : List Int) (x : Int) : lastOr c (xs ++ [x]) = x + 1 := by
  induction xs generalizing c with
  | nil => rfl
  | cons y ys ih => exact ih _
theorem last_of {b : List Int} (h : b ≠ []) (c : Int) : ∃ x, b.getLast? = some x ∧ x + 1 = lastOr c b := by
  obtain ⟨ys, x, rfl⟩ : ∃ ys x, b = ys ++ [x] := ⟨b.dropLast, b.getLast h, (List.dropLast_concat_getLast h).symm⟩
  exact ⟨x, by simp, (lastOr_snoc c ys x).symm⟩
theorem zipTs_map (crowd : List Ltr) (own : List (List Int)) : zipTs (crowd.map ltT) (own.map bT) = (crowd.zip own).map fun p => .tup [ltT p.1, bT p.2] := by
  induction crowd generalizing own with
  | nil => cases own <;> rfl
  | cons l ls ih => cases own with
    | nil => rfl
    | cons b bs => simp only [List.map_cons, zipTs, List.zip_cons_cons, ih]
theorem intsT_map (xs : List Int) : intsT (xs.map T.int) = some xs := by
  induction xs with
  | nil => rfl
  | cons x xs ih => simp only [List.map_cons, intsT, ih, Option.map_some]
theorem intsW_cl (cs : Cs) (xs : List Int) : intsW cs (.cl (.lst (xs.map T.int))) = some xs := by simp only [intsW, peek_cl, intsT_map]
theorem enum_map (crowd : List Ltr) (k : Nat) : enumFrom k (crowd.map ltT) = (crowd.zipIdx k).map fun p => .tup [.int p.2, ltT p.1] := by
  induction crowd generalizing k with
  | nil => rfl
  | cons l ls ih => simp only [List.map_cons, enumFrom, List.zipIdx_cons, ih]
def lanesOf (r : List Int) : List (Int × Int) := (List.range (r.length - 1)).map fun k => (r[k]?.getD 0, r[k + 1]?.getD 0)
def lanesAll (c : List Ltr) : List (Int × Int) := c.flatMap fun l => lanesOf l.2
def cnt (ps : List (Int × Int)) (p : Int × Int) : Nat := ps.countP fun b => decide (b = p)
theorem lanesOf_len (r : List Int) : (lanesOf r).length = r.length - 1 := by simp [lanesOf]
theorem gmax_le : ∀ {xs : List Int} {B : Int}, xs ≠ [] → (∀ x ∈ xs, x ≤ B) → gmax xs ≤ B
  | [], _, h, _ => absurd rfl h
  | [x], B, _, h => h x (by simp)
  | x :: y :: ys, B, _, h => by
    have ih := gmax_le (xs := y :: ys) (B := B) (by simp) (fun z hz => h z (List.mem_cons_of_mem _ hz))
    have hx := h x (by simp)
    unfold gmax
    dsimp only
    split <;> omega
theorem le_gmax : ∀ {xs : List Int} {x : Int}, x ∈ xs → x ≤ gmax xs
  | [x], y, h => by simp at h; subst h; exact Int.le_refl _
  | x :: y :: ys, z, h => by
    have ih := fun h => le_gmax (xs := y :: ys) (x := z) h
    unfold gmax
    dsimp only
    rcases List.mem_cons.mp h with rfl | h
    · split <;> omega
    · have := ih h
      split <;> omega
end My

namespace My
open PySem L2 G
/-! the run: its cells -/
def natW (xs : List Nat) : List W := digW (xs.map fun (x : Nat) => (x : Int))
theorem natW_get {xs : List Nat} {k x : Nat} (h : xs[k]? = some x) : (natW xs)[k]? = some (W.cl (.int x)) := by
  unfold natW; exact digW_get (by simp [h])
theorem natW_len (xs : List Nat) : (natW xs).length = xs.length := by simp [natW, digW_len]
theorem natW_set (xs : List Nat) (k x : Nat) : (natW xs).set k (W.cl (.int x)) = natW (xs.set k x) := by simp [natW, digW, List.map_set]
theorem digW_set (xs : List Int) (k : Nat) (x : Int) : (digW xs).set k (W.cl (.int x)) = digW (xs.set k x) := by simp [digW, List.map_set]
def cellD (r : List Int) : Cell := .lst (digW r)
/-- at, came, the rows of carried, carried, used -/
def runB (at_ : List Nat) (came : List Int) (rows : List (List Int)) (used : List Int) : Cs :=
  .lst (natW at_) :: .lst (digW came) :: (rows.map cellD ++ [.lst ((List.range' 2 rows.length).map W.pt), .lst (digW used)])
theorem runB_len (at_ : List Nat) (came : List Int) (rows : List (List Int)) (used : List Int) : (runB at_ came rows used).length = rows.length + 4 := by simp [runB]
section
variable {at_ : List Nat} {came : List Int} {rows : List (List Int)} {used : List Int} {n : Nat} {g : Cs}
theorem rb0 : (runB at_ came rows used ++ g)[0]? = some (.lst (natW at_)) := rfl
theorem rb1 : (runB at_ came rows used ++ g)[1]? = some (.lst (digW came)) := rfl
theorem rbr {k : Nat} {r : List Int} (h : rows[k]? = some r) : (runB at_ came rows used ++ g)[k + 2]? = some (.lst (digW r)) := by
  have hk := (List.getElem?_eq_some_iff.mp h).1
  rw [List.getElem?_append_left (by rw [runB_len]; omega)]
  unfold runB
  simp only [List.getElem?_cons_succ]
  rw [List.getElem?_append_left (by simpa using hk), List.getElem?_map, h]; rfl
theorem rbt (h : rows.length = n) : (runB at_ came rows used ++ g)[n + 2]? = some (.lst ((List.range' 2 n).map W.pt)) := by
  subst h
  rw [List.getElem?_append_left (by rw [runB_len]; omega)]
  unfold runB
  simp only [List.getElem?_cons_succ]
  rw [List.getElem?_append_right (by simp)]
  simp
theorem rbu (h : rows.length = n) : (runB at_ came rows used ++ g)[n + 3]? = some (.lst (digW used)) := by
  subst h
  rw [List.getElem?_append_left (by rw [runB_len]; omega)]
  unfold runB
  rw [show rows.length + 3 = (rows.length + 1) + 1 + 1 from rfl]
  simp only [List.getElem?_cons_succ]
  rw [List.getElem?_append_right (by simp)]
  simp
theorem rbg (h : rows.length = n) {j : Nat} : (runB at_ came rows used ++ g)[n + 4 + j]? = g[j]? := by
  rw [List.getElem?_append_right (by rw [runB_len]; omega), runB_len]
  congr 1; omega
theorem rs0 {a : List Nat} : (runB at_ came rows used ++ g).set 0 (.lst (natW a)) = runB a came rows used ++ g := rfl
theorem rs1 {c : List Int} : (runB at_ came rows used ++ g).set 1 (.lst (digW c)) = runB at_ c rows used ++ g := rfl
theorem rsr {k : Nat} {r : List Int} (h : k < rows.length) : (runB at_ came rows used ++ g).set (k + 2) (.lst (digW r)) = runB at_ came (rows.set k r) used ++ g := by
  rw [List.set_append_left _ _ (by rw [runB_len]; omega)]
  unfold runB
  simp only [List.set_cons_succ, List.length_set]
  rw [List.set_append_left _ _ (by simpa using h), List.map_set]; rfl
theorem rsu {u : List Int} (h : rows.length = n) : (runB at_ came rows used ++ g).set (n + 3) (.lst (digW u)) = runB at_ came rows u ++ g := by
  subst h
  rw [List.set_append_left _ _ (by rw [runB_len]; omega)]
  unfold runB
  rw [show rows.length + 3 = (rows.length + 1) + 1 + 1 from rfl]
  simp only [List.set_cons_succ]
  rw [List.set_append_right _ _ (by simp)]
  simp
theorem rsg (h : rows.length = n) {j : Nat} {c : Cell} : (runB at_ came rows used ++ g).set (n + 4 + j) c = runB at_ came rows used ++ g.set j c := by
  rw [List.set_append_right _ _ (by rw [runB_len]; omega), runB_len]
  congr 2; omega
theorem rbn (h : rows.length = n) : (runB at_ came rows used ++ g).length = n + 4 + g.length := by
  rw [List.length_append, runB_len]; omega
theorem rpts {k : Nat} (h : k < n) : ((List.range' 2 n).map W.pt)[k]? = some (.pt (k + 2)) := by
  rw [List.getElem?_map, List.getElem?_range' h]
  simp; omega
end
/-! plain: where the letters are -/
structure Pos_ (crowd : List Ltr) (at_ : List Nat) (came : List Int) : Prop where
  la : at_.length = crowd.length
  lc : came.length = crowd.length
  small : crowd.length ≤ 60 ∧ ∀ l ∈ crowd, 1 ≤ l.2.length ∧ l.2.length ≤ 30
def rt (crowd : List Ltr) (k : Nat) : List Int := (crowd[k]?.getD (0, [])).2
def aD (at_ : List Nat) (k : Nat) : Nat := at_[k]?.getD 0
def cD (came : List Int) (k : Nat) : Int := came[k]?.getD 0
def goes (crowd : List Ltr) (at_ : List Nat) (k : Nat) : Bool := decide (aD at_ k + 1 < (rt crowd k).length)
def going (crowd : List Ltr) (at_ : List Nat) : List Nat := (List.range crowd.length).filter (goes crowd at_)
def natT (k : Nat) : T := .int k
theorem get_rt {crowd : List Ltr} {k : Nat} (h : k < crowd.length) : crowd[k]? = some (crowd[k]) ∧ rt crowd k = crowd[k].2 := by
  have e := List.getElem?_eq_getElem h
  exact ⟨e, by simp [rt, e]⟩
theorem get_aD {xs : List Nat} {k : Nat} (h : k < xs.length) : xs[k]? = some (aD xs k) := by simp [aD, List.getElem?_eq_getElem h]
theorem get_cD {xs : List Int} {k : Nat} (h : k < xs.length) : xs[k]? = some (cD xs k) := by simp [cD, List.getElem?_eq_getElem h]
section
variable {crowd : List Ltr} {at_ : List Nat} {came : List Int} {rows : List (List Int)} {used : List Int} {g : Cs} {n : Nat}
variable {o1 o2 o6 o7 o8 o9 o10 o11 o12 o13 o14 o15 o16 o17 o18 o19 o20 : Option W}
theorem run_C4 (P : Pos_ crowd at_ came) (hn : crowd.length = n) : C4_law_run [some (.cl (.lst (crowd.map ltT))), o1, o2, some (.cl (.int n)), some (.pt 0), some (.pt 1), o6, o7, o8, o9, o10, o11, o12, o13, o14, o15, o16, o17, o18, o19, o20] (runB at_ came rows used ++ g) =
    .ok (.cl (.lst ((going crowd at_).map natT))) (runB at_ came rows used ++ g) := by
  have rn := rgi (j := (n : Int)) (by have := P.small.1; omega)
  have := mlc_enc (vs := [12]) (mi := mRng1 (mCons (mVar 3) mNil)) (mg := mgName 12) (mt := T4_law_run) (me := E4_law_run) (ρ := [some (.cl (.lst (crowd.map ltT))), o1, o2, some (.cl (.int n)), some (.pt 0), some (.pt 1), o6, o7, o8, o9, o10, o11, o12, o13, o14, o15, o16, o17, o18, o19, o20]) (cs := runB at_ came rows used ++ g) (cs1 := runB at_ came rows used ++ g) natT natT id (goes crowd at_) (List.range n)
    (by simp only [↓bindM, ev, ef, ↓reduceIte, el, rn, Int.toNat_natCast, rangeT, Int.zero_add]; rfl) (lLim (by simp; have := P.small.1; omega)) (fun k hk => by
      have hk := List.mem_range.mp hk
      obtain ⟨e1, e2⟩ := get_rt (crowd := crowd) (k := k) (by omega)
      have e3 : (crowd.map ltT)[k]? = some (.tup [.int (crowd[k]'(by omega)).1, .tup ((rt crowd k).map T.int)]) := by rw [List.getElem?_map, e1, e2]; rfl
      have e4 := natW_get (get_aD (xs := at_) (k := k) (by have := P.la; omega))
      have e5 : decide ((aD at_ k : Int) < ((rt crowd k).length : Nat) - 1) = goes crowd at_ k := by
        unfold goes
        rw [Bool.eq_iff_iff, decide_eq_true_eq, decide_eq_true_eq]; omega
      refine ⟨_, rfl, ?_, fun _ => ?_⟩
      · simp only [T4_law_run, natT, ↓bindM, ev, ef, ↓reduceIte, el, ep, rb0, gx_nat, e3, e4, List.length_map, e5]
      · simp only [E4_law_run, ev, el, id])
  rw [List.map_id] at this
  unfold going
  rw [hn]
  exact this
theorem run_C5 (P : Pos_ crowd at_ came) (hn : crowd.length = n) (gs : List Nat) (hg : ∀ k ∈ gs, k < n) (hgl : gs.length ≤ 1000) (c : W) : C5_law_run [some c, o1, o2, some (.cl (.int n)), some (.pt 0), some (.pt 1), o6, o7, o8, o9, some (.cl (.lst (gs.map natT))), o11, o12, o13, o14, o15, o16, o17, o18, o19, o20] (runB at_ came rows used ++ g) =
    .ok (.cl (.lst ((gs.map (cD came)).map T.int))) (runB at_ came rows used ++ g) := by
  unfold C5_law_run
  refine mlc_all natT T.int (cD came) gs (by simp only [↓bindM, ev, ef, el]) (lLim (by omega)) fun k hk => ⟨_, rfl, ?_⟩
  have hk := hg k hk
  have e4 := digW_get (get_cD (xs := came) (k := k) (by have := P.lc; omega))
  simp only [E5_law_run, natT, ↓bindM, ev, ef, ↓reduceIte, el, ep, rb1, gx_nat, e4]
end
end My

namespace My
open PySem L2 G
structure Ent where
  lane : Int × Int
  p : Nat
  row : List Nat
def keyOf (l : Int × Int) : List Key := [.inl l.1, .inl l.2]
theorem keyOf_inj {a b : Int × Int} (h : keyOf a = keyOf b) : a = b := by
  obtain ⟨a1, a2⟩ := a
  obtain ⟨b1, b2⟩ := b
  simp [keyOf] at h
  simp [h]
theorem nodup_map_inj {α β : Type} {f : α → β} : ∀ {D : List α} {a b : α}, (D.map f).Nodup → a ∈ D → b ∈ D → f a = f b → a = b
  | x :: D, a, b, nd, ha, hb, e => by
    rw [List.map_cons, List.nodup_cons] at nd
    rcases List.mem_cons.mp ha with ha1 | ha1
    · subst ha1
      rcases List.mem_cons.mp hb with hb1 | hb1
      · exact hb1.symm
      · have := List.mem_map_of_mem (f := f) hb1
        rw [← e] at this
        exact absurd this nd.1
    · rcases List.mem_cons.mp hb with hb1 | hb1
      · subst hb1
        have := List.mem_map_of_mem (f := f) ha1
        rw [e] at this
        exact absurd this nd.1
      · exact nodup_map_inj nd.2 ha1 hb1 e
theorem isTy_dict (cs : Cs) (x : W) : isTy "dict" cs x = isDct cs x := by
  unfold isTy
  rw [if_neg (by decide), if_neg (by decide), if_pos rfl]
theorem look_map {α : Type} (f : Ent → α) (L : Int × Int) : ∀ D : List Ent, look (D.map fun e => keyOf e.lane) (D.map f) (keyOf L) = (D.find? fun e => decide (e.lane = L)).map f
  | [] => rfl
  | e :: D => by
    by_cases h : e.lane = L
    · subst h; simp [look, List.find?_cons]
    · have h2 : ¬ keyOf e.lane = keyOf L := fun q => h (keyOf_inj q)
      have := look_map f L D
      simp only [look] at this ⊢
      simp [List.find?_cons, h, h2, this]
structure Ask (n j0 i : Nat) (Q : Nat → Int × Int → Prop) (g : Cs) (D : List Ent) : Prop where
  dict : g[j0]? = some (.dT (D.map fun e => keyOf e.lane) (D.map fun e => W.pt (n + 4 + e.p)))
  ent : ∀ e ∈ D, g[e.p]? = some (.lst (natW e.row)) ∧ e.p ≠ j0 ∧ e.row ≠ [] ∧ e.row.length ≤ i ∧ ∀ k ∈ e.row, Q k e.lane
  ps : (D.map Ent.p).Nodup
  lanes : (D.map Ent.lane).Nodup
  len : D.length ≤ i
theorem snocg {g : Cs} {j : Nat} {c x : Cell} (h : g[j]? = some x) : (g ++ [c])[j]? = some x := by
  rw [List.getElem?_append_left (List.getElem?_eq_some_iff.mp h).1]; exact h
section
variable {n j0 i : Nat} {Q : Nat → Int × Int → Prop} {g : Cs} {D : List Ent}
theorem Ask.skip (h : Ask n j0 i Q g D) : Ask n j0 (i + 1) Q g D :=
  ⟨h.dict, fun e he => by obtain ⟨a, b, c, d, e'⟩ := h.ent e he; exact ⟨a, b, c, by omega, e'⟩, h.ps, h.lanes, by have := h.len; omega⟩
/-- one more in a row that stands -/
theorem Ask.old (h : Ask n j0 i Q g D) {e : Ent} (he : e ∈ D) {k : Nat} (hk : Q k e.lane) :
    Ask n j0 (i + 1) Q ((g ++ [Cell.lst []]).set e.p (.lst (natW (e.row ++ [k])))) (D.map fun x => if x.lane = e.lane then { x with row := x.row ++ [k] } else x) := by
  have hp := (List.getElem?_eq_some_iff.mp (h.ent e he).1).1
  have f1 : ∀ x : Ent, keyOf (if x.lane = e.lane then { x with row := x.row ++ [k] } else x : Ent).lane = keyOf x.lane := fun x => by split <;> rfl
  have f2 : ∀ x : Ent, (if x.lane = e.lane then { x with row := x.row ++ [k] } else x : Ent).p = x.p := fun x => by split <;> rfl
  have f3 : ∀ x : Ent, (if x.lane = e.lane then { x with row := x.row ++ [k] } else x : Ent).lane = x.lane := fun x => by split <;> rfl
  refine ⟨?_, fun x hx => ?_, ?_, ?_, by rw [List.length_map]; have := h.len; omega⟩
  · rw [List.getElem?_set_ne (h.ent e he).2.1, List.map_map, List.map_map]
    rw [snocg h.dict]
    simp only [Function.comp_def, f1, f2]
  · obtain ⟨y, hy, rfl⟩ := List.mem_map.mp hx
    obtain ⟨a1, a2, a3, a4, a5⟩ := h.ent y hy
    by_cases hl : y.lane = e.lane
    · have : y = e := nodup_map_inj h.lanes hy he hl
      subst this
      rw [if_pos rfl]
      refine ⟨?_, a2, by simp, by simp; omega, fun z hz => ?_⟩
      · rw [List.getElem?_set_self (by simp; omega)]
      · rcases List.mem_append.mp hz with hz | hz
        · exact a5 z hz
        · have : z = k := by simpa using hz
          subst this; exact hk
    · rw [if_neg hl]
      refine ⟨?_, a2, a3, by omega, a5⟩
      rw [List.getElem?_set_ne (fun q => hl (by rw [nodup_map_inj h.ps he hy q])), snocg a1]
  · rw [List.map_map]; simp only [Function.comp_def, f2]; exact h.ps
  · rw [List.map_map]; simp only [Function.comp_def, f3]; exact h.lanes
/-- a new row -/
theorem Ask.new (h : Ask n j0 i Q g D) {L : Int × Int} (hL : ∀ e ∈ D, e.lane ≠ L) {k : Nat} (hk : Q k L) :
    Ask n j0 (i + 1) Q (((g ++ [Cell.lst []]).set j0 (.dT ((D.map fun e => keyOf e.lane) ++ [keyOf L]) ((D.map fun e => W.pt (n + 4 + e.p)) ++ [W.pt (n + 4 + g.length)]))).set g.length (.lst (natW [k]))) (D ++ [⟨L, g.length, [k]⟩]) := by
  have hj := (List.getElem?_eq_some_iff.mp h.dict).1
  refine ⟨?_, fun e he => ?_, ?_, ?_, by have := h.len; simp; omega⟩
  · rw [List.getElem?_set_ne (by omega), List.getElem?_set_self (by simp; omega)]
    simp
  · rcases List.mem_append.mp he with he | he
    · obtain ⟨a1, a2, a3, a4, a5⟩ := h.ent e he
      have := (List.getElem?_eq_some_iff.mp a1).1
      refine ⟨?_, a2, a3, by omega, a5⟩
      rw [List.getElem?_set_ne (by omega), List.getElem?_set_ne (Ne.symm a2), snocg a1]
    · have : e = ⟨L, g.length, [k]⟩ := by simpa using he
      subst this
      refine ⟨?_, by dsimp only; omega, by simp, by simp, fun z hz => ?_⟩
      · dsimp only; rw [List.getElem?_set_self (by simp)]
      · have : z = k := by simpa using hz
        subst this; exact hk
  · rw [List.map_append]
    refine nodup_snoc h.ps fun hm => ?_
    obtain ⟨e, he, hp⟩ := List.mem_map.mp hm
    have := (List.getElem?_eq_some_iff.mp (h.ent e he).1).1
    dsimp only at hp
    omega
  · rw [List.map_append]
    refine nodup_snoc h.lanes fun hm => ?_
    obtain ⟨e, he, hp⟩ := List.mem_map.mp hm
    exact hL e he hp
end
end My

namespace My
open PySem L2 G
theorem setd_at {cs : Cs} {d : Nat} {ks : List (List Key)} {ws : List W} {a b : Int} {x : W} (h : cs[d]? = some (.dT ks ws)) (hl : ks.length < LIM) :
    fSetd (.pt d) [.cl (.tup [.int a, .int b]), x] cs = match look ks ws (keyOf (a, b)) with | some w => .ok w cs | none => .ok x (cs.set d (.dT (ks ++ [keyOf (a, b)]) (ws ++ [x]))) := by
  simp only [fSetd, h, keyW, keyL, keyK, hl, if_true]
  rfl
theorem isDct_at {cs : Cs} {d : Nat} {ks : List (List Key)} {ws : List W} (h : cs[d]? = some (.dT ks ws)) : isTy "dict" cs (.pt d) = true := by
  rw [isTy_dict]; simp only [isDct, h]
def laneAt (crowd : List Ltr) (at_ : List Nat) (k : Nat) : Int × Int := ((rt crowd k)[aD at_ k]?.getD 0, (rt crowd k)[aD at_ k + 1]?.getD 0)
def QQ (crowd : List Ltr) (at_ : List Nat) (came : List Int) (beat : Int) (gs : List Nat) (k : Nat) (L : Int × Int) : Prop := k ∈ gs ∧ cD came k ≤ beat ∧ L = laneAt crowd at_ k
section
variable {crowd : List Ltr} {at_ : List Nat} {came : List Int} {rows : List (List Int)} {used : List Int} {g0 : Cs} {n j0 : Nat} {beat : Int} {gs : List Nat}
variable {o1 o2 o6 o7 o9 o12 o13 o14 o15 o16 o17 o18 o19 o20 : Option W}
theorem run_S2 (P : Pos_ crowd at_ came) (hn : crowd.length = n) (hr : rows.length = n) (hg : ∀ k ∈ gs, k < n ∧ goes crowd at_ k = true) (hgl : gs.length ≤ 1000) (h0 : g0[j0]? = some (.dT [] [])) :
    ∃ g D o12' o13' o14', S2_law_run [some (.cl (.lst (crowd.map ltT))), o1, o2, some (.cl (.int n)), some (.pt 0), some (.pt 1), o6, o7, some (.cl (.int beat)), o9, some (.cl (.lst (gs.map natT))), some (.pt (n + 4 + j0)), o12, o13, o14, o15, o16, o17, o18, o19, o20] (runB at_ came rows used ++ g0) =
      .ok (.nx [some (.cl (.lst (crowd.map ltT))), o1, o2, some (.cl (.int n)), some (.pt 0), some (.pt 1), o6, o7, some (.cl (.int beat)), o9, some (.cl (.lst (gs.map natT))), some (.pt (n + 4 + j0)), o12', o13', o14', o15, o16, o17, o18, o19, o20]) (runB at_ came rows used ++ g) ∧
      Ask n j0 gs.length (QQ crowd at_ came beat gs) g D ∧ ∀ k ∈ gs, cD came k ≤ beat → ∃ e ∈ D, e.lane = laneAt crowd at_ k := by
  obtain ⟨ρ', cs', e, g, D, o12', o13', o14', h1, h2, hA, hD⟩ := for_ix (mg := mgName 12) (mb := L2_law_run) (ts := gs.map natT)
    (fun i ρ cs => ∃ g D o12 o13 o14, cs = runB at_ came rows used ++ g ∧ ρ = [some (.cl (.lst (crowd.map ltT))), o1, o2, some (.cl (.int n)), some (.pt 0), some (.pt 1), o6, o7, some (.cl (.int beat)), o9, some (.cl (.lst (gs.map natT))), some (.pt (n + 4 + j0)), o12, o13, o14, o15, o16, o17, o18, o19, o20] ∧
      Ask n j0 i (QQ crowd at_ came beat gs) g D ∧ ∀ k ∈ gs.take i, cD came k ≤ beat → ∃ e ∈ D, e.lane = laneAt crowd at_ k)
    (fun i t ρ cs ht ⟨g, D, o12, o13, o14, h1, h2, hA, hD⟩ => by
      subst h1 h2
      rw [List.getElem?_map] at ht
      obtain ⟨k, hk, rfl⟩ := Option.map_eq_some_iff.mp ht
      have hkm := List.mem_of_getElem? hk
      have hi := (List.getElem?_eq_some_iff.mp hk).1
      obtain ⟨kn, kg⟩ := hg k hkm
      have tk : gs.take (i + 1) = gs.take i ++ [k] := by rw [List.take_add_one, hk]; rfl
      have e4 := digW_get (get_cD (xs := came) (k := k) (by have := P.lc; omega))
      by_cases hc : cD came k ≤ beat
      · have d1 : decide (cD came k ≤ beat) = true := decide_eq_true hc
        obtain ⟨e1, e2⟩ := get_rt (crowd := crowd) (k := k) (by omega)
        have e3 : (crowd.map ltT)[k]? = some (.tup [.int (crowd[k]'(by omega)).1, .tup ((rt crowd k).map T.int)]) := by rw [List.getElem?_map, e1, e2]; rfl
        have e5 := natW_get (get_aD (xs := at_) (k := k) (by have := P.la; omega))
        have kl : aD at_ k + 1 < (rt crowd k).length := by simpa [goes] using kg
        have g0' : (rt crowd k)[aD at_ k]? = some ((rt crowd k)[aD at_ k]?.getD 0) := by rw [List.getElem?_eq_getElem (by omega)]; rfl
        have g1' : (rt crowd k)[aD at_ k + 1]? = some ((rt crowd k)[aD at_ k + 1]?.getD 0) := by rw [List.getElem?_eq_getElem kl]; rfl
        have c1 : ((aD at_ k : Nat) : Int) + 1 = ((aD at_ k + 1 : Nat) : Int) := by omega
        have z : (0 ≤ LIM) = True := by unfold LIM; decide
        have hQ : QQ crowd at_ came beat gs k (laneAt crowd at_ k) := ⟨hkm, hc, rfl⟩
        have dd : (runB at_ came rows used ++ g)[n + 4 + j0]? = _ := (rbg hr).trans hA.dict
        have dd1 : (runB at_ came rows used ++ (g ++ [Cell.lst []]))[n + 4 + j0]? = _ := (rbg hr).trans (snocg hA.dict)
        have td := isDct_at dd
        have lim : (D.map fun e => keyOf e.lane).length < LIM := by rw [List.length_map]; have := hA.len; unfold LIM; omega
        have sd := setd_at (a := (rt crowd k)[aD at_ k]?.getD 0) (b := (rt crowd k)[aD at_ k + 1]?.getD 0) (x := W.pt (n + 4 + g.length)) dd1 lim
        rw [look_map, show ((rt crowd k)[aD at_ k]?.getD 0, (rt crowd k)[aD at_ k + 1]?.getD 0) = laneAt crowd at_ k from rfl] at sd
        generalize haa : (rt crowd k)[aD at_ k]?.getD 0 = va at g0' sd
        generalize hbb : (rt crowd k)[aD at_ k + 1]?.getD 0 = vb at g1' sd
        have wk : ∀ r : List Nat, natW r ++ [W.cl (.int k)] = natW (r ++ [k]) := fun r => by simp [natW, digW]
        cases hf : D.find? (fun e => decide (e.lane = laneAt crowd at_ k)) with
        | some e =>
          have he := List.mem_of_find?_eq_some hf
          have hel : e.lane = laneAt crowd at_ k := by simpa using List.find?_some hf
          rw [hf] at sd
          dsimp only [Option.map_some] at sd
          obtain ⟨a1, a2, a3, a4, a5⟩ := hA.ent e he
          have ce : (runB at_ came rows used ++ (g ++ [Cell.lst []]))[n + 4 + e.p]? = some (.lst (natW e.row)) := (rbg hr).trans (snocg a1)
          have lim2' : (natW e.row).length < LIM := by rw [natW_len]; unfold LIM; omega
          refine ⟨_, _, ?_, _, _, some (.cl (.int k)), some (.cl (.tup ((rt crowd k).map T.int))), some (.pt (n + 4 + e.p)), rfl, rfl, hA.old he (k := k) (by rw [hel]; exact hQ), fun x hx hx2 => by
            have mp : ∀ e' ∈ D, ∃ e'' ∈ D.map (fun x => if x.lane = e.lane then { x with row := x.row ++ [k] } else x), e''.lane = e'.lane := fun e' he' => ⟨_, List.mem_map_of_mem he', by split <;> rfl⟩
            rw [tk] at hx
            rcases List.mem_append.mp hx with hx | hx
            · obtain ⟨e', he', l'⟩ := hD x hx hx2
              obtain ⟨e'', h3, h4⟩ := mp e' he'
              exact ⟨e'', h3, h4.trans l'⟩
            · have : x = k := by simpa using hx
              subst this
              obtain ⟨e'', h3, h4⟩ := mp e he
              exact ⟨e'', h3, h4.trans hel⟩⟩
          simp only [stepF, L2_law_run, I2_law_run, natT, ↓bindM, ev, ef, ↓reduceIte, el, ep, rb0, rb1, gx_nat, e3, e4, e5, d1, c1, ints_get g0', ints_get g1', td, z, lim2, List.append_assoc, rbn hr, sd, ce, lim2', wk, rsg hr]
        | none =>
          have hne : ∀ e ∈ D, e.lane ≠ laneAt crowd at_ k := fun e he q => by
            have := List.find?_eq_none.mp hf e he
            simp [q] at this
          rw [hf] at sd
          dsimp only [Option.map_none] at sd
          have ce : ∀ c : Cell, (((g ++ [Cell.lst []]).set j0 c)[g.length]?) = some (.lst (natW [])) := fun c => by
            have hj := (List.getElem?_eq_some_iff.mp hA.dict).1
            rw [List.getElem?_set_ne (by omega)]; simp [natW, digW]
          have lim2' : (natW []).length < LIM := by rw [natW_len]; unfold LIM; simp
          refine ⟨_, _, ?_, _, _, some (.cl (.int k)), some (.cl (.tup ((rt crowd k).map T.int))), some (.pt (n + 4 + g.length)), rfl, rfl, hA.new hne hQ, fun x hx hx2 => by
            rw [tk] at hx
            rcases List.mem_append.mp hx with hx | hx
            · obtain ⟨e', he', l'⟩ := hD x hx hx2
              exact ⟨e', List.mem_append_left _ he', l'⟩
            · have : x = k := by simpa using hx
              subst this
              exact ⟨_, List.mem_append_right _ (List.mem_singleton.mpr rfl), rfl⟩⟩
          simp only [stepF, L2_law_run, I2_law_run, natT, ↓bindM, ev, ef, ↓reduceIte, el, ep, rb0, rb1, gx_nat, e3, e4, e5, d1, c1, ints_get g0', ints_get g1', td, z, lim2, List.append_assoc, rbn hr, sd, rsg hr, rbg hr, ce, lim2', wk, List.nil_append]
      · have d1 : decide (cD came k ≤ beat) = false := decide_eq_false hc
        refine ⟨_, _, ?_, g, D, some (.cl (.int k)), o13, o14, rfl, rfl, hA.skip, fun x hx hx2 => ?_⟩
        · simp only [stepF, L2_law_run, I2_law_run, natT, ↓bindM, ev, ef, ↓reduceIte, el, ep, rb1, gx_nat, e4, d1]
        · rw [tk] at hx
          rcases List.mem_append.mp hx with hx | hx
          · exact hD x hx hx2
          · have : x = k := by simpa using hx
            subst this; exact absurd hx2 hc)
    (ρ := [some (.cl (.lst (crowd.map ltT))), o1, o2, some (.cl (.int n)), some (.pt 0), some (.pt 1), o6, o7, some (.cl (.int beat)), o9, some (.cl (.lst (gs.map natT))), some (.pt (n + 4 + j0)), o12, o13, o14, o15, o16, o17, o18, o19, o20]) (cs := runB at_ came rows used ++ g0)
    ⟨g0, [], o12, o13, o14, rfl, rfl, ⟨h0, (fun e he => nomatch he), List.nodup_nil, List.nodup_nil, Nat.zero_le _⟩, fun k hk => by simp at hk⟩
  subst h1 h2
  rw [List.length_map] at hA hD
  rw [List.take_length] at hD
  refine ⟨g, D, o12', o13', o14', ?_, hA, hD⟩
  unfold S2_law_run
  exact sfor_ok (by simp only [↓bindM, ev, ef, el]) e
end
end My

namespace My
open PySem L2 G
theorem dget_at {cs : Cs} {d : Nat} {ks : List (List Key)} {ws : List W} {a b : Int} (h : cs[d]? = some (.dT ks ws)) :
    fDGet (.pt d) (.cl (.tup [.int a, .int b])) cs = match look ks ws (keyOf (a, b)) with | some w => .ok w cs | none => .no := by
  simp only [fDGet, h, keyW, keyL, keyK]
  rfl
theorem keys_pT (D : List Ent) : ((D.map fun e => keyOf e.lane).map fun k => W.cl (.tup (k.map keyT))) = ((D.map Ent.lane).map pT).map W.cl := by
  simp only [List.map_map]
  exact List.map_congr_left fun e _ => rfl
section
variable {crowd : List Ltr} {at_ : List Nat} {came : List Int} {rows : List (List Int)} {used : List Int} {g : Cs} {n j0 i0 : Nat} {beat : Int} {gs : List Nat} {D : List Ent} {nums : List Int}
variable {c0 c10 : W} {o6 o9 o12 o13 o14 o16 o17 o18 o19 o20 : Option W}
theorem run_S3 (hr : rows.length = n) (hA : Ask n j0 i0 (QQ crowd at_ came beat gs) g D) (hi0 : i0 ≤ 1000) (hnum : nums.length ≤ 1000) (hu : used.length ≤ 1000) :
    ∃ ms used' o14' o16' o17' o18', S3_law_run [some c0, some (.cl .non), some (.cl (.lst (nums.map T.int))), some (.cl (.int n)), some (.pt 0), some (.pt 1), o6, some (.pt (n + 3)), some (.cl (.int beat)), o9, some c10, some (.pt (n + 4 + j0)), o12, o13, o14, some (.pt (n + 4 + g.length)), o16, o17, o18, o19, o20] (runB at_ came rows used ++ (g ++ [.lst (natW [])])) =
      .ok (.nx [some c0, some (.cl .non), some (.cl (.lst (nums.map T.int))), some (.cl (.int n)), some (.pt 0), some (.pt 1), o6, some (.pt (n + 3)), some (.cl (.int beat)), o9, some c10, some (.pt (n + 4 + j0)), o12, o13, o14', some (.pt (n + 4 + g.length)), o16', o17', o18', o19, o20]) (runB at_ came rows used' ++ (g ++ [.lst (natW ms)])) ∧
      used'.length ≤ 1000 ∧ (ms.map (laneAt crowd at_)).Nodup ∧ (∀ k ∈ ms, k ∈ gs ∧ cD came k ≤ beat) ∧ (∀ e ∈ D, ∃ k ∈ ms, laneAt crowd at_ k = e.lane) ∧ ms.length ≤ 1000 := by
  have hp := srtE_perm pT (D.map Ent.lane)
  have es := fun cs : Cs => f_sortedP (cs := cs) (cs1 := cs) (x := .cl (.lst ((D.map Ent.lane).map pT))) (as := D.map Ent.lane) (by rw [List.length_map]; have := hA.len; unfold LIM; omega) (frz_cl _ _ _)
  generalize srtE pT (D.map Ent.lane) = Ls at hp es
  obtain ⟨ρ', cs', e, ms, used', o14', o16', o17', o18', h1, h2, hm, hul⟩ := for_ix (mg := mgName 16) (mb := L3_law_run) (ts := Ls.map pT)
    (fun i ρ cs => ∃ ms used o14 o16 o17 o18, cs = runB at_ came rows used ++ (g ++ [.lst (natW ms)]) ∧ ρ = [some c0, some (.cl .non), some (.cl (.lst (nums.map T.int))), some (.cl (.int n)), some (.pt 0), some (.pt 1), o6, some (.pt (n + 3)), some (.cl (.int beat)), o9, some c10, some (.pt (n + 4 + j0)), o12, o13, o14, some (.pt (n + 4 + g.length)), o16, o17, o18, o19, o20] ∧
      (ms.map (laneAt crowd at_) = Ls.take i ∧ ∀ k ∈ ms, k ∈ gs ∧ cD came k ≤ beat) ∧ used.length ≤ 1000)
    (fun i t ρ cs ht ⟨ms, used, o14, o16, o17, o18, h1, h2, ⟨hm1, hm2⟩, hu⟩ => by
      subst h1 h2
      rw [List.getElem?_map] at ht
      obtain ⟨L, hL, rfl⟩ := Option.map_eq_some_iff.mp ht
      obtain ⟨e, he, rfl⟩ := List.mem_map.mp (hp.mem_iff.mp (List.mem_of_getElem? hL))
      have hf : D.find? (fun x => decide (x.lane = e.lane)) = some e := by
        cases hf : D.find? (fun x => decide (x.lane = e.lane)) with
        | none => have := List.find?_eq_none.mp hf e he; simp at this
        | some x =>
          have hx := List.mem_of_find?_eq_some hf
          have hxl : x.lane = e.lane := by simpa using List.find?_some hf
          rw [nodup_map_inj hA.lanes hx he hxl]
      obtain ⟨a1, a2, a3, a4, a5⟩ := hA.ent e he
      have msl : ms.length ≤ Ls.length := by
        have := congrArg List.length hm1
        rw [List.length_map, List.length_take] at this
        omega
      have Lsl : Ls.length ≤ 1000 := by rw [hp.length_eq, List.length_map]; have := hA.len; omega
      have dd : ∀ u ms, (runB at_ came rows u ++ (g ++ [Cell.lst (natW ms)]))[n + 4 + j0]? = _ := fun u ms => (rbg hr).trans (snocg hA.dict)
      have dg := fun u ms => dget_at (a := e.lane.1) (b := e.lane.2) (dd u ms)
      have lk := look_map (fun x => W.pt (n + 4 + x.p)) e.lane D
      rw [hf] at lk
      have cr : ∀ u ms, (runB at_ came rows u ++ (g ++ [Cell.lst (natW ms)]))[n + 4 + e.p]? = some (.lst (natW e.row)) := fun u ms => (rbg hr).trans (snocg a1)
      have cm : ∀ u ms, (runB at_ came rows u ++ (g ++ [Cell.lst (natW ms)]))[n + 4 + g.length]? = some (.lst (natW ms)) := fun u ms => (rbg hr).trans (snoc_at g _)
      have sm : ∀ u ms ms', (runB at_ came rows u ++ (g ++ [Cell.lst (natW ms)])).set (n + 4 + g.length) (.lst (natW ms')) = runB at_ came rows u ++ (g ++ [Cell.lst (natW ms')]) := fun u ms ms' => by rw [rsg hr, snoc_set]
      have rp : 0 < e.row.length := List.length_pos_iff.mpr a3
      have r0 : (natW e.row)[0]? = some (W.cl (.int e.row[0])) := natW_get (List.getElem?_eq_getElem rp)
      have lim : ms.length < LIM := by unfold LIM; omega
      have wk : ∀ (r : List Nat) (k : Nat), natW r ++ [W.cl (.int k)] = natW (r ++ [k]) := fun r k => by simp [natW, digW]
      have tk : Ls.take (i + 1) = Ls.take i ++ [e.lane] := by rw [List.take_add_one, hL]; rfl
      have fin : ∀ k ∈ e.row, (ms ++ [k]).map (laneAt crowd at_) = Ls.take (i + 1) ∧ ∀ x ∈ ms ++ [k], x ∈ gs ∧ cD came x ≤ beat := fun k hk => by
        obtain ⟨q1, q2, q3⟩ := a5 k hk
        refine ⟨by rw [List.map_append, hm1, tk, q3]; rfl, fun x hx => ?_⟩
        rcases List.mem_append.mp hx with hx | hx
        · exact hm2 x hx
        · have : x = k := by simpa using hx
          subst this; exact ⟨q1, q2⟩
      have tn : fIs false (W.cl T.non) (W.cl T.non) = fun cs => R.ok (W.cl (T.bl true)) cs := rfl
      have tn2 : fIs true (W.cl T.non) (W.cl T.non) = fun cs => R.ok (W.cl (T.bl false)) cs := rfl
      by_cases hl : 1 < e.row.length
      · have d1 : decide ((1 : Int) < (e.row.length : Nat)) = true := decide_eq_true (by omega)
        have lp : (0 : Int) < (e.row.length : Nat) := by omega
        -- the pick
        obtain ⟨pick, used2, hu2, eI4⟩ : ∃ (pick : Int) (used2 : List Int), used2.length ≤ 1000 ∧ I4_law_run [some c0, some (.cl .non), some (.cl (.lst (nums.map T.int))), some (.cl (.int n)), some (.pt 0), some (.pt 1), o6, some (.pt (n + 3)), some (.cl (.int beat)), o9, some c10, some (.pt (n + 4 + j0)), o12, o13, some (.pt (n + 4 + e.p)), some (.pt (n + 4 + g.length)), some (.cl (pT e.lane)), some (.cl (.int e.row[0])), some (.cl (.int 0)), o19, o20] (runB at_ came rows used ++ (g ++ [Cell.lst (natW ms)])) =
            .ok (.nx [some c0, some (.cl .non), some (.cl (.lst (nums.map T.int))), some (.cl (.int n)), some (.pt 0), some (.pt 1), o6, some (.pt (n + 3)), some (.cl (.int beat)), o9, some c10, some (.pt (n + 4 + j0)), o12, o13, some (.pt (n + 4 + e.p)), some (.pt (n + 4 + g.length)), some (.cl (pT e.lane)), some (.cl (.int e.row[0])), some (.cl (.int pick)), o19, o20]) (runB at_ came rows used2 ++ (g ++ [Cell.lst (natW ms)])) := by
          by_cases hun : used.length < nums.length
          · have q1 : decide ((used.length : Int) < (nums.length : Nat)) = true := decide_eq_true (by omega)
            have gn := ints_get (List.getElem?_eq_getElem hun)
            have lim' : used.length < LIM := by unfold LIM; omega
            refine ⟨nums[used.length], used ++ [nums[used.length]], by simp; omega, ?_⟩
            simp only [I4_law_run, ↓bindM, ev, ef, ↓reduceIte, el, ep, rbu hr, digW_len, List.length_map, q1, gx_nat, gn, lim', digW_snoc, rsu hr]
          · have q1 : decide ((used.length : Int) < (nums.length : Nat)) = false := decide_eq_false (by omega)
            refine ⟨0, used, hu, ?_⟩
            simp only [I4_law_run, ↓bindM, ev, ef, ↓reduceIte, el, ep, rbu hr, digW_len, List.length_map, q1]
        obtain ⟨q, hq⟩ := Int.eq_ofNat_of_zero_le (Int.emod_nonneg pick (show (e.row.length : Int) ≠ 0 by omega))
        have hq1 := Int.emod_lt_of_pos pick lp
        rw [hq] at hq1
        have hql : q < e.row.length := by omega
        have rq : (natW e.row)[q]? = some (W.cl (.int e.row[q])) := natW_get (List.getElem?_eq_getElem hql)
        refine ⟨_, _, ?_, ms ++ [e.row[q]], used2, some (.pt (n + 4 + e.p)), some (.cl (pT e.lane)), some (.cl (.int e.row[q])), some (.cl (.int pick)), rfl, rfl, fin _ (List.getElem_mem hql), hu2⟩
        simp only [pT] at eI4
        simp only [stepF, L3_law_run, I3_law_run, I5_law_run, pT, ↓bindM, ev, ef, ↓reduceIte, el, ep, dg, lk, cr, r0, natW_len, d1, eI4, lp, hq, gx_nat, rq, cm, lim, wk, sm]
      · have d1 : decide ((1 : Int) < (e.row.length : Nat)) = false := decide_eq_false (by omega)
        refine ⟨_, _, ?_, ms ++ [e.row[0]], used, some (.pt (n + 4 + e.p)), some (.cl (pT e.lane)), some (.cl (.int e.row[0])), o18, rfl, rfl, fin _ (List.getElem_mem rp), hu⟩
        simp only [stepF, L3_law_run, I3_law_run, I5_law_run, pT, ↓bindM, ev, ef, ↓reduceIte, el, ep, dg, lk, cr, r0, natW_len, d1, cm, lim, wk, sm])
    (ρ := [some c0, some (.cl .non), some (.cl (.lst (nums.map T.int))), some (.cl (.int n)), some (.pt 0), some (.pt 1), o6, some (.pt (n + 3)), some (.cl (.int beat)), o9, some c10, some (.pt (n + 4 + j0)), o12, o13, o14, some (.pt (n + 4 + g.length)), o16, o17, o18, o19, o20]) (cs := runB at_ came rows used ++ (g ++ [.lst (natW [])]))
    ⟨[], used, o14, o16, o17, o18, rfl, rfl, ⟨rfl, fun k hk => nomatch hk⟩, hu⟩
  subst h1 h2
  obtain ⟨hm1, hm2⟩ := hm
  rw [List.length_map, List.take_length] at hm1
  refine ⟨ms, used', o14', o16', o17', o18', ?_, hul, by rw [hm1]; exact hp.nodup_iff.mpr hA.lanes, hm2, fun e0 he0 => ?_, ?_⟩
  · unfold S3_law_run
    refine sfor_ok ?_ e
    have dd : (runB at_ came rows used ++ (g ++ [Cell.lst (natW [])]))[n + 4 + j0]? = _ := (rbg hr).trans (snocg hA.dict)
    have lim : (D.map fun e => keyOf e.lane).length < LIM := by rw [List.length_map]; have := hA.len; unfold LIM; omega
    have ek : mKeysT false 16 11 [some c0, some (.cl .non), some (.cl (.lst (nums.map T.int))), some (.cl (.int n)), some (.pt 0), some (.pt 1), o6, some (.pt (n + 3)), some (.cl (.int beat)), o9, some c10, some (.pt (n + 4 + j0)), o12, o13, o14, some (.pt (n + 4 + g.length)), o16, o17, o18, o19, o20] (runB at_ came rows used ++ (g ++ [Cell.lst (natW [])])) = .ok (.cl (.lst ((D.map Ent.lane).map pT))) (runB at_ came rows used ++ (g ++ [Cell.lst (natW [])])) := by
      unfold mKeysT
      simp only [↓bindM, ev, el, dd]
      rw [if_pos ⟨lim, by decide⟩, keys_pT]
      simp only [newL, frzs_cls, Bool.false_eq_true, if_false]
    simp only [↓bindM, ev, ef, el, ek, es]
  · have : e0.lane ∈ ms.map (laneAt crowd at_) := by rw [hm1]; exact hp.mem_iff.mpr (List.mem_map_of_mem he0)
    obtain ⟨k, hk, e⟩ := List.mem_map.mp this
    exact ⟨k, hk, e⟩
  · have := congrArg List.length hm1
    rw [List.length_map, hp.length_eq, List.length_map] at this
    have := hA.len
    omega
end
end My

namespace My
open PySem L2 G
def rD (rows : List (List Int)) (k : Nat) : List Int := rows[k]?.getD []
theorem get_rD {xs : List (List Int)} {k : Nat} (h : k < xs.length) : xs[k]? = some (rD xs k) := by simp [rD, List.getElem?_eq_getElem h]
/-- the letters of ms have moved in that beat -/
structure Mvd (at_ at' : List Nat) (came came' : List Int) (rows rows' : List (List Int)) (beat : Int) (ms : List Nat) : Prop where
  la : at'.length = at_.length
  lc : came'.length = came.length
  lr : rows'.length = rows.length
  a : ∀ k, k < at_.length → aD at' k = if k ∈ ms then aD at_ k + 1 else aD at_ k
  c : ∀ k, k < came.length → cD came' k = if k ∈ ms then beat + 1 else cD came k
  r : ∀ k, k < rows.length → rD rows' k = if k ∈ ms then rD rows k ++ [beat] else rD rows k
theorem Mvd.refl (at_ : List Nat) (came : List Int) (rows : List (List Int)) (beat : Int) : Mvd at_ at_ came came rows rows beat [] :=
  ⟨rfl, rfl, rfl, fun _ _ => rfl, fun _ _ => rfl, fun _ _ => rfl⟩
theorem Mvd.step {at_ at' : List Nat} {came came' : List Int} {rows rows' : List (List Int)} {beat : Int} {ms : List Nat} (h : Mvd at_ at' came came' rows rows' beat ms) {k : Nat} (hk : k ∉ ms) (ka : k < at_.length) (kc : k < came.length) (kr : k < rows.length) :
    Mvd at_ (at'.set k (aD at' k + 1)) came (came'.set k (beat + 1)) rows (rows'.set k (rD rows' k ++ [beat])) beat (ms ++ [k]) := by
  refine ⟨by simp [h.la], by simp [h.lc], by simp [h.lr], fun j hj => ?_, fun j hj => ?_, fun j hj => ?_⟩
  · by_cases e : j = k
    · subst e
      have := h.a j hj
      rw [if_neg hk] at this
      simp [aD, h.la, hj] at this ⊢
      omega
    · have := h.a j hj
      have e2 : k ≠ j := fun q => e q.symm
      simp [aD, List.getElem?_set_ne e2, e] at this ⊢
      exact this
  · by_cases e : j = k
    · subst e
      simp [cD, h.lc, hj]
    · have := h.c j hj
      have e2 : k ≠ j := fun q => e q.symm
      simp [cD, List.getElem?_set_ne e2, e] at this ⊢
      exact this
  · by_cases e : j = k
    · subst e
      have := h.r j hj
      rw [if_neg hk] at this
      simp [rD, h.lr, hj] at this ⊢
      rw [this]
    · have := h.r j hj
      have e2 : k ≠ j := fun q => e q.symm
      simp [rD, List.getElem?_set_ne e2, e] at this ⊢
      exact this
section
variable {at_ : List Nat} {came : List Int} {rows : List (List Int)} {used : List Int} {g : Cs} {n : Nat} {beat : Int} {ms : List Nat}
variable {c0 c1 c2 c10 : W} {o7 o9 o11 o12 o13 o14 o16 o17 o18 o19 o20 : Option W}
theorem run_S4 (hr : rows.length = n) (ha : at_.length = n) (hc : came.length = n) (nd : ms.Nodup) (hm : ∀ k ∈ ms, k < n) (hml : ms.length ≤ 1000) (hrl : ∀ k, k < n → (rD rows k).length ≤ 1000) :
    ∃ at' came' rows' o12' o19' g', S4_law_run [some c0, some c1, some c2, some (.cl (.int n)), some (.pt 0), some (.pt 1), some (.pt (n + 2)), o7, some (.cl (.int beat)), o9, some c10, o11, o12, o13, o14, some (.pt (n + 4 + g.length)), o16, o17, o18, o19, o20] (runB at_ came rows used ++ (g ++ [.lst (natW ms)])) =
      .ok (.nx [some c0, some c1, some c2, some (.cl (.int n)), some (.pt 0), some (.pt 1), some (.pt (n + 2)), o7, some (.cl (.int beat)), o9, some c10, o11, o12', o13, o14, some (.pt (n + 4 + g.length)), o16, o17, o18, o19', o20]) (runB at' came' rows' used ++ g') ∧ Mvd at_ at' came came' rows rows' beat ms := by
  obtain ⟨ρ', cs', e, at', came', rows', o12', o19', h1, h2, hM⟩ := for_ix (mg := mgName 12) (mb := L4_law_run) (ts := ms.map natT)
    (fun i ρ cs => ∃ at' came' rows' o12 o19, cs = runB at' came' rows' used ++ (g ++ [.fz (.lst (ms.map natT))]) ∧ ρ = [some c0, some c1, some c2, some (.cl (.int n)), some (.pt 0), some (.pt 1), some (.pt (n + 2)), o7, some (.cl (.int beat)), o9, some c10, o11, o12, o13, o14, some (.pt (n + 4 + g.length)), o16, o17, o18, o19, o20] ∧ Mvd at_ at' came came' rows rows' beat (ms.take i))
    (fun i t ρ cs ht ⟨at', came', rows', o12, o19, h1, h2, hM⟩ => by
      subst h1 h2
      rw [List.getElem?_map] at ht
      obtain ⟨k, hk, rfl⟩ := Option.map_eq_some_iff.mp ht
      have hkn := hm k (List.mem_of_getElem? hk)
      have hil := (List.getElem?_eq_some_iff.mp hk).1
      have tk : ms.take (i + 1) = ms.take i ++ [k] := by rw [List.take_add_one, hk]; rfl
      have hkt : k ∉ ms.take i := by
        have : (ms.take (i + 1)).Nodup := nd.sublist (List.take_sublist _ _)
        rw [tk, List.nodup_append] at this
        intro q
        exact this.2.2 k q k (by simp) rfl
      have hr' : rows'.length = n := hM.lr.trans hr
      have gr := get_rD (xs := rows') (k := k) (by omega)
      have ga := natW_get (get_aD (xs := at') (k := k) (by have := hM.la; omega))
      have lim : (rD rows' k).length < LIM := by
        have := hM.r k (by omega)
        rw [if_neg hkt] at this
        rw [this]
        have := hrl k hkn
        unfold LIM; omega
      have ia : ixN (natW at').length (k : Int) = some k := gx_ix (by rw [natW_len]; have := hM.la; omega)
      have ic : ixN came'.length (k : Int) = some k := gx_ix (by have := hM.lc; omega)
      have ca : ((aD at' k : Nat) : Int) + 1 = ((aD at' k + 1 : Nat) : Int) := by omega
      have srow := fun u => rsr (at_ := at') (came := came') (used := used) (g := g ++ [.fz (.lst (ms.map natT))]) (r := u) (show k < rows'.length by omega)
      refine ⟨_, _, ?_, at'.set k (aD at' k + 1), came'.set k (beat + 1), rows'.set k (rD rows' k ++ [beat]), some (.cl (.int k)), some (.pt (k + 2)), rfl, rfl, by rw [tk]; exact hM.step hkt (by omega) (by omega) (by omega)⟩
      have hr2 : (rows'.set k (rD rows' k ++ [beat])).length = n := by simp [hr']
      simp only [stepF, L4_law_run, natT, ↓bindM, ev, ef, ↓reduceIte, el, ep, rbt hr', gx_nat, rpts hkn, rbr gr, digW_len, lim, digW_snoc, srow, rb0, rb1, ga, ca, ia, ic, natW_set, digW_set, rs0, rs1])
    (ρ := [some c0, some c1, some c2, some (.cl (.int n)), some (.pt 0), some (.pt 1), some (.pt (n + 2)), o7, some (.cl (.int beat)), o9, some c10, o11, o12, o13, o14, some (.pt (n + 4 + g.length)), o16, o17, o18, o19, o20]) (cs := runB at_ came rows used ++ (g ++ [.fz (.lst (ms.map natT))]))
    ⟨at_, came, rows, o12, o19, rfl, rfl, by rw [List.take_zero]; exact Mvd.refl _ _ _ _⟩
  subst h1 h2
  rw [List.length_map, List.take_length] at hM
  refine ⟨at', came', rows', o12', o19', g ++ [.fz (.lst (ms.map natT))], ?_, hM⟩
  unfold S4_law_run
  refine sfor_ok ?_ e
  have cm : (runB at_ came rows used ++ (g ++ [Cell.lst (natW ms)]))[n + 4 + g.length]? = some (.lst ((ms.map natT).map W.cl)) := by
    rw [rbg hr, snoc_at]; simp [natW, digW, natT]
  have f8 := frz_lst (n := 7) cm
  have sm : (runB at_ came rows used ++ (g ++ [Cell.lst (natW ms)])).set (n + 4 + g.length) (.fz (.lst (ms.map natT))) = runB at_ came rows used ++ (g ++ [Cell.fz (.lst (ms.map natT))]) := by rw [rsg hr, snoc_set]
  rw [sm] at f8
  have it : itemsT (.pt (n + 4 + g.length)) (runB at_ came rows used ++ (g ++ [Cell.lst (natW ms)])) = .ok (ms.map natT) (runB at_ came rows used ++ (g ++ [Cell.fz (.lst (ms.map natT))])) := by
    simp only [itemsT, f8]
  simp only [↓bindM, ev, el, it]
end
end My

namespace My
open PySem L2 G
/-! the run, in plain terms -/
theorem sum_le {l : List Nat} {f h : Nat → Nat} (hf : ∀ k ∈ l, f k ≤ h k) : (l.map f).sum ≤ (l.map h).sum := by
  induction l with
  | nil => simp
  | cons x xs ih =>
    have h1 := hf x (by simp)
    have h2 := ih fun k hk => hf k (List.mem_cons_of_mem _ hk)
    simp only [List.map_cons, List.sum_cons]; omega
theorem sum_lt {l : List Nat} {f h : Nat → Nat} (hf : ∀ k ∈ l, f k ≤ h k) {k : Nat} (hk : k ∈ l) (hlt : f k < h k) : (l.map f).sum + 1 ≤ (l.map h).sum := by
  induction l with
  | nil => cases hk
  | cons x xs ih =>
    have h1 := hf x (by simp)
    have h2 := sum_le fun k hk => hf k (List.mem_cons_of_mem x hk)
    simp only [List.map_cons, List.sum_cons]
    rcases List.mem_cons.mp hk with rfl | hk
    · omega
    · have := ih (fun k hk => hf k (List.mem_cons_of_mem _ hk)) hk
      omega
theorem sum_add (l : List Nat) (f h : Nat → Nat) : (l.map fun k => f k + h k).sum = (l.map f).sum + (l.map h).sum := by
  induction l with
  | nil => rfl
  | cons x xs ih => simp only [List.map_cons, List.sum_cons, ih]; omega
theorem sum_one {l : List Nat} (nd : l.Nodup) {p : Nat → Bool} (hu : ∀ a ∈ l, ∀ b ∈ l, p a = true → p b = true → a = b) : (l.map fun k => if p k then 1 else 0).sum ≤ 1 := by
  induction l with
  | nil => simp
  | cons x xs ih =>
    rw [List.nodup_cons] at nd
    have h2 := ih nd.2 fun a ha b hb => hu a (List.mem_cons_of_mem _ ha) b (List.mem_cons_of_mem _ hb)
    simp only [List.map_cons, List.sum_cons]
    cases hx : p x with
    | false => rw [if_neg Bool.false_ne_true]; omega
    | true =>
      have : (xs.map fun k => if p k then 1 else 0).sum = 0 := by
        clear h2 ih
        induction xs with
        | nil => rfl
        | cons y ys ihy =>
          have hy : p y = false := by
            cases hy : p y with
            | false => rfl
            | true =>
              have := hu x (by simp) y (by simp) hx hy
              subst this
              exact absurd (by simp) nd.1
          simp only [List.map_cons, List.sum_cons, hy, Bool.false_eq_true, if_false]
          rw [ihy]
          · rw [List.mem_cons, not_or, List.nodup_cons] at nd
            exact ⟨nd.1.2, nd.2.2⟩
          · intro a ha b hb
            exact hu a (by rcases List.mem_cons.mp ha with h | h <;> simp [h]) b (by rcases List.mem_cons.mp hb with h | h <;> simp [h])
      rw [this]; simp
/-- how often lane L was passed -/
def doneL (crowd : List Ltr) (at_ : List Nat) (L : Int × Int) : Nat := ((List.range crowd.length).map fun k => cnt ((lanesOf (rt crowd k)).take (aD at_ k)) L).sum
def totA (n : Nat) (at_ : List Nat) : Nat := ((List.range n).map (aD at_)).sum
def stD (crowd : List Ltr) (k : Nat) : Nat := (crowd[k]?.getD (0, [])).1
structure RI (crowd : List Ltr) (at_ : List Nat) (came : List Int) (rows : List (List Int)) (beat : Int) : Prop where
  la : at_.length = crowd.length
  lc : came.length = crowd.length
  lr : rows.length = crowd.length
  a1 : ∀ k, k < crowd.length → aD at_ k + 1 ≤ (rt crowd k).length
  a2 : ∀ k, k < crowd.length → (rD rows k).length = aD at_ k
  a3 : ∀ k, k < crowd.length → cD came k = lastOr (stD crowd k) (rD rows k)
  a4 : ∀ k, k < crowd.length → (stD crowd k : Int) + aD at_ k ≤ cD came k
  a5 : ∀ k, k < crowd.length → rD rows k ≠ [] → cD came k ≤ beat
  a6 : 0 ≤ beat
  a7 : (beat = 0 ∧ ∀ k, k < crowd.length → rD rows k = []) ∨ ∃ k, k < crowd.length ∧ rD rows k ≠ [] ∧ cD came k = beat
  a8 : ∀ L, (doneL crowd at_ L : Int) ≤ beat
theorem lanes_get {r : List Int} {j : Nat} (h : j + 1 < r.length) : (lanesOf r)[j]? = some (r[j]?.getD 0, r[j + 1]?.getD 0) := by
  unfold lanesOf
  rw [List.getElem?_map, List.getElem?_range (by omega)]; rfl
theorem RI.step {crowd : List Ltr} {at_ at' : List Nat} {came came' : List Int} {rows rows' : List (List Int)} {beat b1 : Int} {ms : List Nat} (h : RI crowd at_ came rows beat) (hb : beat ≤ b1)
    (hm : ∀ k ∈ ms, k < crowd.length ∧ goes crowd at_ k = true ∧ cD came k ≤ b1) (nd : (ms.map (laneAt crowd at_)).Nodup) (ne : ms ≠ []) (M : Mvd at_ at' came came' rows rows' b1 ms) :
    RI crowd at' came' rows' (b1 + 1) ∧ totA crowd.length at_ + 1 ≤ totA crowd.length at' := by
  have ha := fun k (hk : k < crowd.length) => M.a k (by rw [h.la]; exact hk)
  have hc := fun k (hk : k < crowd.length) => M.c k (by rw [h.lc]; exact hk)
  have hr := fun k (hk : k < crowd.length) => M.r k (by rw [h.lr]; exact hk)
  refine ⟨⟨M.la.trans h.la, M.lc.trans h.lc, M.lr.trans h.lr, fun k hk => ?_, fun k hk => ?_, fun k hk => ?_, fun k hk => ?_, fun k hk hne => ?_, by have := h.a6; omega, ?_, fun L => ?_⟩, ?_⟩
  · rw [ha k hk]
    split
    · rename_i hkm
      have := (hm k hkm).2.1
      simp [goes] at this; omega
    · exact h.a1 k hk
  · rw [ha k hk, hr k hk]
    have := h.a2 k hk
    split
    · simp; omega
    · exact this
  · rw [hc k hk, hr k hk]
    split
    · rw [lastOr_snoc]
    · exact h.a3 k hk
  · rw [hc k hk, ha k hk]
    have := h.a4 k hk
    split
    · rename_i hkm
      have := (hm k hkm).2.2
      omega
    · exact this
  · rw [hr k hk] at hne
    rw [hc k hk]
    split at hne
    · rename_i hkm; rw [if_pos hkm]; omega
    · rename_i hkm; rw [if_neg hkm]; have := h.a5 k hk hne; omega
  · right
    obtain ⟨k, hkm⟩ := List.exists_mem_of_ne_nil ms ne
    have hk := (hm k hkm).1
    exact ⟨k, hk, by rw [hr k hk, if_pos hkm]; simp, by rw [hc k hk, if_pos hkm]⟩
  · have key : doneL crowd at' L ≤ doneL crowd at_ L + 1 := by
      have hu := sum_one (l := List.range crowd.length) List.nodup_range (p := fun k => decide (k ∈ ms ∧ laneAt crowd at_ k = L)) (fun a _ b _ h1 h2 => by
        have h1 := of_decide_eq_true h1
        have h2 := of_decide_eq_true h2
        exact nodup_map_inj nd h1.1 h2.1 (h1.2.trans h2.2.symm))
      have le : doneL crowd at' L ≤ ((List.range crowd.length).map fun k => cnt ((lanesOf (rt crowd k)).take (aD at_ k)) L + (if decide (k ∈ ms ∧ laneAt crowd at_ k = L) then 1 else 0)).sum := by
        unfold doneL
        refine sum_le fun k hk => ?_
        have hk := List.mem_range.mp hk
        rw [ha k hk]
        split
        · rename_i hkm
          have hg := (hm k hkm).2.1
          have hg : aD at_ k + 1 < (rt crowd k).length := by simpa [goes] using hg
          rw [List.take_add_one, lanes_get hg]
          have : cnt ((lanesOf (rt crowd k)).take (aD at_ k) ++ (some ((rt crowd k)[aD at_ k]?.getD 0, (rt crowd k)[aD at_ k + 1]?.getD 0)).toList) L = cnt ((lanesOf (rt crowd k)).take (aD at_ k)) L + (if decide (laneAt crowd at_ k = L) then 1 else 0) := by
            unfold cnt
            rw [List.countP_append]
            by_cases hq : laneAt crowd at_ k = L
            · rw [if_pos (decide_eq_true hq)]
              unfold laneAt at hq
              simp [List.countP_cons, hq]
            · rw [if_neg (by simpa using hq)]
              unfold laneAt at hq
              simp [List.countP_cons, hq]
          rw [this]
          simp [hkm]
        · omega
      rw [sum_add] at le
      unfold doneL at le ⊢
      omega
    have := h.a8 L
    omega
  · obtain ⟨k, hkm⟩ := List.exists_mem_of_ne_nil ms ne
    have hk := (hm k hkm).1
    unfold totA
    refine sum_lt (k := k) (fun j hj => ?_) (List.mem_range.mpr hk) ?_
    · rw [ha j (List.mem_range.mp hj)]; split <;> omega
    · rw [ha k hk, if_pos hkm]; omega

/-! who was carried over which lane in which beat -/
def inc (c : Int) : List Int → Bool
  | [] => true
  | b :: bs => decide (c ≤ b) && inc (b + 1) bs
theorem inc_snoc (c : Int) (bs : List Int) (b : Int) : inc c (bs ++ [b]) = (inc c bs && decide (lastOr c bs ≤ b)) := by
  induction bs generalizing c with
  | nil => show (decide (c ≤ b) && true) = (true && decide (c ≤ b)); rw [Bool.and_true, Bool.true_and]
  | cons x xs ih => simp only [List.cons_append, inc, lastOr, ih, Bool.and_assoc]; try rfl
/-- the lane j of the letter k, its beat -/
def rideAt (crowd : List Ltr) (rows : List (List Int)) (k j : Nat) : Option ((Int × Int) × Int) := ((lanesOf (rt crowd k)).zip (rD rows k))[j]?
/-- when the letter k came to the tail of its lane j -/
def cameAt (crowd : List Ltr) (rows : List (List Int)) (k j : Nat) : Int := lastOr (stD crowd k) ((rD rows k).take j)
def Rides (crowd : List Ltr) (rows : List (List Int)) (L : Int × Int) (t : Int) : Prop := ∃ k j, k < crowd.length ∧ rideAt crowd rows k j = some (L, t)
structure RJ (crowd : List Ltr) (at_ : List Nat) (came : List Int) (rows : List (List Int)) (beat : Int) : Prop where
  b1 : ∀ k, k < crowd.length → inc (stD crowd k) (rD rows k) = true
  b2 : ∀ k j L t, k < crowd.length → rideAt crowd rows k j = some (L, t) → t < beat
  b3 : ∀ k j k' j' x, k < crowd.length → k' < crowd.length → rideAt crowd rows k j = some x → rideAt crowd rows k' j' = some x → k = k' ∧ j = j'
  b4 : ∀ k j L t, k < crowd.length → rideAt crowd rows k j = some (L, t) → ∀ u, cameAt crowd rows k j ≤ u → u < t → Rides crowd rows L u
  b6 : ∀ M : Int, 0 ≤ M → (∀ k, k < crowd.length → (stD crowd k : Int) ≤ M) → beat ≤ M + totA crowd.length at_
  b5 : ∀ k, k < crowd.length → goes crowd at_ k = true → ∀ u, cD came k ≤ u → u < beat → Rides crowd rows (laneAt crowd at_ k) u
section
variable {crowd : List Ltr} {at_ at' : List Nat} {came came' : List Int} {rows rows' : List (List Int)} {beat b1 : Int} {ms : List Nat}
theorem ride_get {k j : Nat} {L : Int × Int} {t : Int} (h : rideAt crowd rows k j = some (L, t)) : (lanesOf (rt crowd k))[j]? = some L ∧ (rD rows k)[j]? = some t := by
  unfold rideAt at h
  have hl := (List.getElem?_eq_some_iff.mp h).1
  rw [List.length_zip] at hl
  rw [List.getElem?_eq_getElem (by rw [List.length_zip]; exact hl), List.getElem_zip] at h
  cases h
  exact ⟨List.getElem?_eq_getElem _, List.getElem?_eq_getElem _⟩
theorem ride_of {k j : Nat} {L : Int × Int} {t : Int} (h1 : (lanesOf (rt crowd k))[j]? = some L) (h2 : (rD rows k)[j]? = some t) : rideAt crowd rows k j = some (L, t) := by
  unfold rideAt
  obtain ⟨l1, e1⟩ := List.getElem?_eq_some_iff.mp h1
  obtain ⟨l2, e2⟩ := List.getElem?_eq_some_iff.mp h2
  rw [List.getElem?_eq_getElem (by rw [List.length_zip]; omega), List.getElem_zip, e1, e2]
/-- what was ridden stays; a letter that moves rides its lane -/
theorem ride_step (h : RI crowd at_ came rows beat) (hm : ∀ k ∈ ms, k < crowd.length ∧ goes crowd at_ k = true ∧ cD came k ≤ b1) (M : Mvd at_ at' came came' rows rows' b1 ms) {k : Nat} (hk : k < crowd.length) (j : Nat) :
    rideAt crowd rows' k j = if k ∈ ms ∧ j = aD at_ k then some (laneAt crowd at_ k, b1) else rideAt crowd rows k j := by
  have hr := M.r k (by rw [h.lr]; exact hk)
  have ha2 := h.a2 k hk
  by_cases hkm : k ∈ ms
  · rw [if_pos hkm] at hr
    have hg := (hm k hkm).2.1
    have hg : aD at_ k + 1 < (rt crowd k).length := by simpa [goes] using hg
    by_cases hj : j = aD at_ k
    · rw [if_pos ⟨hkm, hj⟩, hj]
      refine ride_of ?_ ?_
      · rw [lanes_get hg]; rfl
      · rw [hr, List.getElem?_append_right (by omega), ha2]; simp
    · rw [if_neg (fun q => hj q.2)]
      unfold rideAt
      rw [hr]
      by_cases hlt : j < aD at_ k
      · have e1 : ((lanesOf (rt crowd k)).zip (rD rows k ++ [b1]))[j]? = some ((lanesOf (rt crowd k))[j]'(by rw [lanesOf_len]; omega), (rD rows k)[j]'(by omega)) := by
          rw [List.getElem?_eq_getElem (by rw [List.length_zip, lanesOf_len]; simp; omega), List.getElem_zip]
          congr 2
          rw [List.getElem_append_left (by omega)]
        rw [e1, List.getElem?_eq_getElem (by rw [List.length_zip, lanesOf_len]; omega), List.getElem_zip]
      · rw [List.getElem?_eq_none (by rw [List.length_zip]; simp; omega), List.getElem?_eq_none (by rw [List.length_zip]; omega)]
  · rw [if_neg hkm] at hr
    rw [if_neg (fun q => hkm q.1)]
    unfold rideAt; rw [hr]
theorem came_step (h : RI crowd at_ came rows beat) (M : Mvd at_ at' came came' rows rows' b1 ms) {k j : Nat} (hk : k < crowd.length) (hj : j ≤ aD at_ k) : cameAt crowd rows' k j = cameAt crowd rows k j := by
  have hr := M.r k (by rw [h.lr]; exact hk)
  have ha2 := h.a2 k hk
  unfold cameAt
  rw [hr]
  split
  · rw [List.take_append_of_le_length (by omega)]
  · rfl
theorem RJ.step (h : RI crowd at_ came rows beat) (H : RJ crowd at_ came rows beat) (hb : beat ≤ b1)
    (hm : ∀ k ∈ ms, k < crowd.length ∧ goes crowd at_ k = true ∧ cD came k ≤ b1) (nd : (ms.map (laneAt crowd at_)).Nodup) (M : Mvd at_ at' came came' rows rows' b1 ms)
    (hs : ∀ k, k < crowd.length → goes crowd at_ k = true → cD came k ≤ b1 → ∃ k' ∈ ms, laneAt crowd at_ k' = laneAt crowd at_ k)
    (hw : beat < b1 → ∀ k, k < crowd.length → goes crowd at_ k = true → b1 ≤ cD came k) (hx : b1 = beat ∨ ∃ k, k < crowd.length ∧ cD came k = b1) (ht : totA crowd.length at_ + 1 ≤ totA crowd.length at') : RJ crowd at' came' rows' (b1 + 1) := by
  have ha := fun k (hk : k < crowd.length) => M.a k (by rw [h.la]; exact hk)
  have hc := fun k (hk : k < crowd.length) => M.c k (by rw [h.lc]; exact hk)
  have hr := fun k (hk : k < crowd.length) => M.r k (by rw [h.lr]; exact hk)
  have stay : ∀ {L u}, Rides crowd rows L u → Rides crowd rows' L u := fun {L u} ⟨k, j, hk, e⟩ => by
    refine ⟨k, j, hk, ?_⟩
    rw [ride_step h hm M hk, if_neg ?_]
    · exact e
    · rintro ⟨_, rfl⟩
      have := (List.getElem?_eq_some_iff.mp (ride_get e).2).1
      rw [h.a2 k hk] at this
      omega
  have rode : ∀ k, k ∈ ms → Rides crowd rows' (laneAt crowd at_ k) b1 := fun k hkm => by
    obtain ⟨hk, _⟩ := hm k hkm
    exact ⟨k, aD at_ k, hk, by rw [ride_step h hm M hk, if_pos ⟨hkm, rfl⟩]⟩
  -- a letter that goes and came by b1 was not idle ahead of b1
  have wait : ∀ k, k < crowd.length → goes crowd at_ k = true → ∀ u, cD came k ≤ u → u < b1 → Rides crowd rows (laneAt crowd at_ k) u := fun k hk hg u h1 h2 => by
    by_cases hu : u < beat
    · exact H.b5 k hk hg u h1 hu
    · have := hw (by omega) k hk hg
      omega
  refine ⟨fun k hk => ?_, fun k j L t hk e => ?_, fun k j k' j' x hk hk' e e' => ?_, fun k j L t hk e u h1 h2 => ?_, fun M h0 hM => ?_, fun k hk hg u h1 h2 => ?_⟩
  · rw [hr k hk]
    have := H.b1 k hk
    split
    · rename_i hkm
      rw [inc_snoc, this, ← h.a3 k hk]
      simpa using (hm k hkm).2.2
    · exact this
  · rw [ride_step h hm M hk] at e
    split at e
    · cases e; omega
    · have := H.b2 k j L t hk e; omega
  · rw [ride_step h hm M hk] at e
    rw [ride_step h hm M hk'] at e'
    split at e
    · rename_i q
      cases e
      split at e'
      · rename_i q'
        have e2 : laneAt crowd at_ k' = laneAt crowd at_ k := congrArg Prod.fst (Option.some.inj e')
        have : k' = k := nodup_map_inj nd q'.1 q.1 e2
        subst this
        exact ⟨rfl, q.2.trans q'.2.symm⟩
      · have := H.b2 k' j' _ _ hk' e'; omega
    · split at e'
      · rename_i q'
        cases e'
        have := H.b2 k j _ _ hk e; omega
      · exact H.b3 k j k' j' x hk hk' e e'
  · rw [ride_step h hm M hk] at e
    split at e
    · rename_i q
      cases e
      have ec : cameAt crowd rows' k j = cD came k := by
        rw [came_step h M hk (by omega), h.a3 k hk]
        unfold cameAt
        rw [q.2, List.take_of_length_le (by rw [h.a2 k hk]; omega)]
      rw [ec] at h1
      exact stay (wait k hk (hm k q.1).2.1 u h1 h2)
    · have hl := (List.getElem?_eq_some_iff.mp (ride_get e).2).1
      rw [h.a2 k hk] at hl
      rw [came_step h M hk (by omega)] at h1
      exact stay (H.b4 k j L t hk e u h1 h2)
  · have i1 := H.b6 M h0 hM
    have : b1 ≤ M + totA crowd.length at_ := by
      rcases hx with rfl | ⟨k, hk, e⟩
      · exact i1
      · by_cases hz : rD rows k = []
        · have := h.a3 k hk
          rw [hz] at this
          have h3 := hM k hk
          simp only [lastOr] at this
          omega
        · have := h.a5 k hk hz; omega
    omega
  · by_cases hkm : k ∈ ms
    · rw [hc k hk, if_pos hkm] at h1; omega
    · have e1 : aD at' k = aD at_ k := by rw [ha k hk, if_neg hkm]
      have e2 : laneAt crowd at' k = laneAt crowd at_ k := by unfold laneAt; rw [e1]
      have hg' : goes crowd at_ k = true := by unfold goes at hg ⊢; rwa [e1] at hg
      rw [hc k hk, if_neg hkm] at h1
      rw [e2]
      by_cases hu : u < b1
      · exact stay (wait k hk hg' u h1 hu)
      · have : u = b1 := by omega
        subst this
        obtain ⟨k', hk', e3⟩ := hs k hk hg' h1
        rw [← e3]; exact rode k' hk'
end
end My

namespace My
open PySem L2 G
theorem gmin_in : ∀ {xs : List Int}, xs ≠ [] → gmin xs ∈ xs
  | [], h => absurd rfl h
  | [x], _ => by simp [gmin]
  | x :: y :: ys, _ => by
    have ih := gmin_in (xs := y :: ys) (by simp)
    unfold gmin
    dsimp only
    split
    · simp
    · exact List.mem_cons_of_mem _ ih
theorem tot_le {crowd : List Ltr} {at_ : List Nat} (h : ∀ k, k < crowd.length → aD at_ k + 1 ≤ (rt crowd k).length) (hl : ∀ l ∈ crowd, 1 ≤ l.2.length ∧ l.2.length ≤ 30) : totA crowd.length at_ ≤ 29 * crowd.length := by
  have : totA crowd.length at_ ≤ ((List.range crowd.length).map fun _ => 29).sum := by
    refine sum_le fun k hk => ?_
    have hk := List.mem_range.mp hk
    have h1 := h k hk
    obtain ⟨_, e2⟩ := get_rt hk
    have h2 := (hl _ (List.getElem_mem hk)).2
    rw [← e2] at h2
    omega
  have e : ((List.range crowd.length).map fun _ => 29).sum = 29 * crowd.length := by
    rw [List.map_const', List.sum_replicate_nat, List.length_range]; omega
  omega
section
variable {crowd : List Ltr} {nums : List Int} {n : Nat}
/-- the state before a turn -/
def TI (crowd : List Ltr) (nums : List Int) (n i : Nat) (ρ : G.Loc) (cs : Cs) : Prop := ∃ at_ came rows used beat g o9 o10 o11 o12 o13 o14 o15 o16 o17 o18 o19 o20, cs = runB at_ came rows used ++ g ∧
  ρ = [some (.cl (.lst (crowd.map ltT))), some (.cl .non), some (.cl (.lst (nums.map T.int))), some (.cl (.int n)), some (.pt 0), some (.pt 1), some (.pt (n + 2)), some (.pt (n + 3)), some (.cl (.int beat)), o9, o10, o11, o12, o13, o14, o15, o16, o17, o18, o19, o20] ∧
  (RI crowd at_ came rows beat ∧ RJ crowd at_ came rows beat) ∧ i ≤ totA n at_ ∧ used.length ≤ 1000
/-- .. at the end -/
def TE_ (crowd : List Ltr) (nums : List Int) (n : Nat) (ρ : G.Loc) (cs : Cs) : Prop := ∃ at_ came rows used beat g o9 o10 o11 o12 o13 o14 o15 o16 o17 o18 o19 o20, cs = runB at_ came rows used ++ g ∧
  ρ = [some (.cl (.lst (crowd.map ltT))), some (.cl .non), some (.cl (.lst (nums.map T.int))), some (.cl (.int n)), some (.pt 0), some (.pt 1), some (.pt (n + 2)), some (.pt (n + 3)), some (.cl (.int beat)), o9, o10, o11, o12, o13, o14, o15, o16, o17, o18, o19, o20] ∧
  (RI crowd at_ came rows beat ∧ RJ crowd at_ came rows beat) ∧ ∀ k, k < n → aD at_ k + 1 = (rt crowd k).length
theorem run_turn (hn : crowd.length = n) (h60 : n ≤ 60) (hl : ∀ l ∈ crowd, 1 ≤ l.2.length ∧ l.2.length ≤ 30) (hnum : nums.length ≤ 1000) {i : Nat} {ρ : G.Loc} {cs : Cs} (h : TI crowd nums n i ρ cs) :
    (∃ ρ' cs', stepF (mgName 9) L1_law_run (.int (i : Nat)) ρ cs = .ok (.nx ρ') cs' ∧ TI crowd nums n (i + 1) ρ' cs') ∨ (∃ ρ' cs', stepF (mgName 9) L1_law_run (.int (i : Nat)) ρ cs = .ok (.bk ρ') cs' ∧ TE_ crowd nums n ρ' cs') := by
  obtain ⟨at_, came, rows, used, beat, g, o9, o10, o11, o12, o13, o14, o15, o16, o17, o18, o19, o20, rfl, rfl, ⟨hI, hJ⟩, hi, hu⟩ := h
  have P : Pos_ crowd at_ came := ⟨hI.la, hI.lc, by omega, hl⟩
  have hr : rows.length = n := hI.lr.trans hn
  have eC4 := run_C4 (rows := rows) (used := used) (g := g) (o1 := some (.cl .non)) (o2 := some (.cl (.lst (nums.map T.int)))) (o6 := some (.pt (n + 2))) (o7 := some (.pt (n + 3))) (o8 := some (.cl (.int beat))) (o9 := some (.cl (.int i))) (o10 := o10) (o11 := o11) (o12 := o12) (o13 := o13) (o14 := o14) (o15 := o15) (o16 := o16) (o17 := o17) (o18 := o18) (o19 := o19) (o20 := o20) P hn
  have gm : ∀ k, k ∈ going crowd at_ ↔ k < crowd.length ∧ goes crowd at_ k = true := fun k => by
    unfold going
    rw [List.mem_filter, List.mem_range]
  have gl : (going crowd at_).length ≤ 60 := by
    unfold going
    have := List.length_filter_le (goes crowd at_) (List.range crowd.length)
    rw [List.length_range] at this
    omega
  by_cases hz : going crowd at_ = []
  · right
    rw [hz, List.map_nil] at eC4
    refine ⟨_, _, ?_, at_, came, rows, used, beat, g, some (.cl (.int i)), some (.cl (.lst [])), o11, o12, o13, o14, o15, o16, o17, o18, o19, o20, rfl, rfl, ⟨hI, hJ⟩, fun k hk => ?_⟩
    · have d0 : decide (((0 : Nat) : Int) = 0) = true := by decide
      simp only [stepF, L1_law_run, I1_law_run, ↓bindM, ev, ef, ↓reduceIte, el, eC4, d0]
    · have h1 := hI.a1 k (by omega)
      have h2 : goes crowd at_ k ≠ true := fun q => by
        have := (gm k).mpr ⟨by omega, q⟩
        rw [hz] at this; cases this
      simp [goes] at h2
      omega
  · left
    generalize hgs : going crowd at_ = gs at eC4 gm gl hz
    have d0 : decide ((gs.length : Int) = 0) = false := decide_eq_false (by have := List.length_pos_iff.mpr hz; omega)
    have eC5 := run_C5 (rows := rows) (used := used) (g := g) (o1 := some (.cl .non)) (o2 := some (.cl (.lst (nums.map T.int)))) (o6 := some (.pt (n + 2))) (o7 := some (.pt (n + 3))) (o8 := some (.cl (.int beat))) (o9 := some (.cl (.int i))) (o11 := o11) (o12 := o12) (o13 := o13) (o14 := o14) (o15 := o15) (o16 := o16) (o17 := o17) (o18 := o18) (o19 := o19) (o20 := o20) P hn gs (fun k hk => by have := ((gm k).mp hk).1; omega) (by omega) (.cl (.lst (crowd.map ltT)))
    have hne : gs.map (cD came) ≠ [] := by simpa using hz
    have emin : ∀ cs, fMin [W.cl (.lst ((gs.map (cD came)).map T.int))] cs = .ok (.cl (.int (gmin (gs.map (cD came))))) cs := fun cs => by
      have q := intsW_cl cs (gs.map (cD came))
      cases hx : gs.map (cD came) with
      | nil => exact absurd hx hne
      | cons y ys =>
        rw [hx] at q
        simp only [fMin, q]
    obtain ⟨k0, hk0, ek0⟩ := List.mem_map.mp (gmin_in hne)
    have hmn : ∀ k ∈ gs, gmin (gs.map (cD came)) ≤ cD came k := fun k hk => (gmin_spec hne).2 _ (List.mem_map_of_mem hk)
    generalize gmin (gs.map (cD came)) = mn at emin ek0 hmn
    generalize hb1 : (if mn > beat then mn else beat) = b1
    have hbb : beat ≤ b1 ∧ mn ≤ b1 := by rw [← hb1]; split <;> omega
    have hbc : beat < b1 → b1 = mn := by rw [← hb1]; split <;> omega
    -- asked
    have lg := rbn (at_ := at_) (came := came) (used := used) (g := g) hr
    obtain ⟨g2, D, p12, p13, p14, eS2, hA, hD⟩ := run_S2 (g0 := g ++ [.dT [] []]) (j0 := g.length) (beat := b1) (gs := gs) (rows := rows) (used := used) (o1 := some (.cl .non)) (o2 := some (.cl (.lst (nums.map T.int)))) (o6 := some (.pt (n + 2))) (o7 := some (.pt (n + 3))) (o9 := some (.cl (.int i))) (o12 := o12) (o13 := o13) (o14 := o14) (o15 := o15) (o16 := o16) (o17 := o17) (o18 := o18) (o19 := o19) (o20 := o20) P hn hr (fun k hk => by have := (gm k).mp hk; exact ⟨by omega, this.2⟩) (by omega) (snoc_at g _)
    obtain ⟨e0, he0, _⟩ := hD k0 hk0 (by omega)
    have lg2 := rbn (at_ := at_) (came := came) (used := used) (g := g2) hr
    obtain ⟨ms, used', q14, q16, q17, q18, eS3, hu', nd, hms, hmne, hml⟩ := run_S3 (rows := rows) (used := used) (nums := nums) (c0 := .cl (.lst (crowd.map ltT))) (c10 := .cl (.lst (gs.map natT))) (o6 := some (.pt (n + 2))) (o9 := some (.cl (.int i))) (o12 := p12) (o13 := p13) (o14 := p14) (o16 := o16) (o17 := o17) (o18 := o18) (o19 := o19) (o20 := o20) hr hA (by omega) hnum hu
    have msn : ∀ k ∈ ms, k < n := fun k hk => by have := ((gm k).mp (hms k hk).1).1; omega
    have msnd : ms.Nodup := by
      have : ∀ {l : List Nat}, (l.map (laneAt crowd at_)).Nodup → l.Nodup := fun {l} h => by
        induction l with
        | nil => exact List.nodup_nil
        | cons x xs ih =>
          rw [List.map_cons, List.nodup_cons] at h
          rw [List.nodup_cons]
          exact ⟨fun q => h.1 (List.mem_map_of_mem q), ih h.2⟩
      exact this nd
    obtain ⟨at', came', rows', r12, r19, g', eS4, M⟩ := run_S4 (rows := rows) (used := used') (g := g2) (at_ := at_) (came := came) (beat := b1) (ms := ms) (c0 := .cl (.lst (crowd.map ltT))) (c1 := .cl .non) (c2 := .cl (.lst (nums.map T.int))) (c10 := .cl (.lst (gs.map natT))) (o7 := some (.pt (n + 3))) (o9 := some (.cl (.int i))) (o11 := some (.pt (n + 4 + g.length))) (o12 := p12) (o13 := p13) (o14 := q14) (o16 := q16) (o17 := q17) (o18 := q18) (o19 := o19) (o20 := o20) hr (by rw [hI.la]; exact hn) (by rw [hI.lc]; exact hn) msnd msn hml (fun k hk => by
      rw [hI.a2 k (by omega)]
      have := hI.a1 k (by omega)
      obtain ⟨_, e2⟩ := get_rt (crowd := crowd) (k := k) (by omega)
      have h2 := (hl _ (List.getElem_mem (show k < crowd.length by omega))).2
      rw [← e2] at h2
      omega)
    have hmne' : ms ≠ [] := fun q => by
      obtain ⟨k, hk, _⟩ := hmne e0 he0
      rw [q] at hk; cases hk
    have hTot := (hI.step hbb.1 (fun k hk => by
      obtain ⟨q1, q2⟩ := hms k hk
      exact ⟨((gm k).mp q1).1, ((gm k).mp q1).2, q2⟩) nd hmne' M).2
    have hJ' := hJ.step hI hbb.1 (fun k hk => by
      obtain ⟨q1, q2⟩ := hms k hk
      exact ⟨((gm k).mp q1).1, ((gm k).mp q1).2, q2⟩) nd M (fun k hk hg hc => by
        obtain ⟨e, he, l⟩ := hD k ((gm k).mpr ⟨hk, hg⟩) hc
        obtain ⟨k', hk', l'⟩ := hmne e he
        exact ⟨k', hk', l'.trans l⟩) (fun hlt k hk hg => by
        rw [hbc hlt]; exact hmn k ((gm k).mpr ⟨hk, hg⟩)) (by
        by_cases hlt : beat < b1
        · exact .inr ⟨k0, by have := ((gm k0).mp hk0).1; omega, by rw [hbc hlt]; exact ek0⟩
        · exact .inl (by omega)) hTot
    obtain ⟨hI', hT⟩ := hI.step hbb.1 (fun k hk => by
      obtain ⟨q1, q2⟩ := hms k hk
      exact ⟨((gm k).mp q1).1, ((gm k).mp q1).2, q2⟩) nd hmne' M
    rw [hn] at hT
    refine ⟨_, _, ?_, at', came', rows', used', b1 + 1, g', some (.cl (.int i)), some (.cl (.lst (gs.map natT))), some (.pt (n + 4 + g.length)), r12, p13, q14, some (.pt (n + 4 + g2.length)), q16, q17, q18, r19, o20, rfl, rfl, ⟨hI', hJ'⟩, by omega, hu'⟩
    have z : (0 ≤ LIM) = True := by unfold LIM; decide
    have nw : natW [] = [] := rfl
    have dn : ∀ ρ cs, mDNewT ρ cs = R.ok (W.pt cs.length) (cs ++ [Cell.dT [] []]) := fun _ _ => rfl
    rw [nw] at eS3
    simp only [stepF, L1_law_run, I1_law_run, ↓bindM, ev, ef, ↓reduceIte, el, eC4, List.length_map, d0, eC5, emin, hb1, dn, lg, List.append_assoc, eS2, z, lg2, eS3, eS4]
end
end My

namespace My
open PySem L2 G
theorem p_run {crowd : List Ltr} {nums : List Int} (h60 : crowd.length ≤ 60) (hl : ∀ l ∈ crowd, 1 ≤ l.2.length ∧ l.2.length ≤ 30) (hnum : nums.length ≤ 1000) : ∃ at_ came rows beat us, (RI crowd at_ came rows beat ∧ RJ crowd at_ came rows beat) ∧ (∀ k, k < crowd.length → aD at_ k + 1 = (rt crowd k).length) ∧
    g_law_run [.lst (crowd.map ltT), .non, .lst (nums.map .int)] = some (.lst [.tup (rows.map bT), us]) := by
  generalize hn : crowd.length = n at h60
  have rn := rgi (j := (n : Int)) (by omega)
  have z : (0 ≤ LIM) = True := by unfold LIM; decide
  let came0 : List Int := crowd.map fun l => (l.1 : Int)
  let ρ0 : G.Loc := [some (.cl (.lst (crowd.map ltT))), some (.cl .non), some (.cl (.lst (nums.map T.int))), some (.cl (.int n)), none, none, none, none, none, none, none, none, none, none, none, none, none, none, none, none, none]
  have e1 : ∀ o4 o5 o6, C1_law_run [some (.cl (.lst (crowd.map ltT))), some (.cl .non), some (.cl (.lst (nums.map T.int))), some (.cl (.int n)), o4, o5, o6, none, none, none, none, none, none, none, none, none, none, none, none, none, none] [] = .ok (.pt 0) [.lst (natW (List.replicate n 0))] := fun o4 o5 o6 => by
    have := mlc_allO (vs := [12]) (mi := mRng1 (mCons (mVar 3) mNil)) (mg := mgName 12) (me := E1_law_run) (ρ := [some (.cl (.lst (crowd.map ltT))), some (.cl .non), some (.cl (.lst (nums.map T.int))), some (.cl (.int n)), o4, o5, o6, none, none, none, none, none, none, none, none, none, none, none, none, none, none]) (cs := []) (cs1 := []) natT natT (fun _ => 0) (List.range n) (by simp only [↓bindM, ev, ef, ↓reduceIte, el, rn, Int.toNat_natCast, rangeT, Int.zero_add]; rfl) (lLim (by simp; omega)) fun k hk => ⟨_, rfl, rfl⟩
    unfold C1_law_run
    rw [this]
    simp [natW, digW, natT, List.map_const']
  have e2 : ∀ o4 o5 o6, C2_law_run [some (.cl (.lst (crowd.map ltT))), some (.cl .non), some (.cl (.lst (nums.map T.int))), some (.cl (.int n)), o4, o5, o6, none, none, none, none, none, none, none, none, none, none, none, none, none, none] [.lst (natW (List.replicate n 0))] = .ok (.pt 1) [.lst (natW (List.replicate n 0)), .lst (digW came0)] := fun o4 o5 o6 => by
    have := mlc_allO (vs := [12]) (mi := mRng1 (mCons (mVar 3) mNil)) (mg := mgName 12) (me := E2_law_run) (ρ := [some (.cl (.lst (crowd.map ltT))), some (.cl .non), some (.cl (.lst (nums.map T.int))), some (.cl (.int n)), o4, o5, o6, none, none, none, none, none, none, none, none, none, none, none, none, none, none]) (cs := [.lst (natW (List.replicate n 0))]) (cs1 := [.lst (natW (List.replicate n 0))]) natT T.int (fun k => (stD crowd k : Int)) (List.range n) (by simp only [↓bindM, ev, ef, ↓reduceIte, el, rn, Int.toNat_natCast, rangeT, Int.zero_add]; rfl) (lLim (by simp; omega)) fun k hk => ⟨_, rfl, by
      have hk := List.mem_range.mp hk
      obtain ⟨q1, _⟩ := get_rt (crowd := crowd) (k := k) (by omega)
      have e3 : (crowd.map ltT)[k]? = some (.tup [.int (stD crowd k), .tup ((crowd[k]'(by omega)).2.map T.int)]) := by rw [List.getElem?_map, q1]; simp [stD, q1, ltT]
      simp only [E2_law_run, natT, ↓bindM, ev, ef, ↓reduceIte, el, gx_nat, e3]⟩
    unfold C2_law_run
    rw [this]
    have ec : (List.range n).map (fun k => (stD crowd k : Int)) = came0 := by
      refine List.ext_getElem? fun k => ?_
      simp only [came0, List.getElem?_map]
      by_cases hk : k < n
      · rw [List.getElem?_range hk]
        have q1 := List.getElem?_eq_getElem (show k < crowd.length by omega)
        simp [stD, q1]
      · rw [List.getElem?_eq_none (by simpa using hk), List.getElem?_eq_none (by omega)]; rfl
    rw [ec]; rfl
  have e3 : ∀ o4 o5 o6, C3_law_run [some (.cl (.lst (crowd.map ltT))), some (.cl .non), some (.cl (.lst (nums.map T.int))), some (.cl (.int n)), o4, o5, o6, none, none, none, none, none, none, none, none, none, none, none, none, none, none] [.lst (natW (List.replicate n 0)), .lst (digW came0)] = .ok (.pt (n + 2)) ([.lst (natW (List.replicate n 0)), .lst (digW came0)] ++ List.replicate n (.lst []) ++ [.lst ((List.range' 2 n).map W.pt)]) := fun o4 o5 o6 => by
    have := lc_cells (mg := mgName 12) (me := E3_law_run) (ρ := wipeL [some (.cl (.lst (crowd.map ltT))), some (.cl .non), some (.cl (.lst (nums.map T.int))), some (.cl (.int n)), o4, o5, o6, none, none, none, none, none, none, none, none, none, none, none, none, none, none] [12]) (c := .lst []) (rangeT 0 n) [] [.lst (natW (List.replicate n 0)), .lst (digW came0)] (fun t _ cs => ⟨_, rfl, by
      simp only [E3_law_run, ↓bindM, ev, ef, el, z, ↓reduceIte]⟩) (by rw [rangeT_len]; unfold LIM; simp; omega)
    unfold C3_law_run mLc
    simp only [↓bindM, ev, ef, ↓reduceIte, el, rn, Int.toNat_natCast]
    simp only [ev, el] at this
    rw [this]
    simp [rangeT_len, ef]
  have h0 : TI crowd nums n 0 [some (.cl (.lst (crowd.map ltT))), some (.cl .non), some (.cl (.lst (nums.map T.int))), some (.cl (.int n)), some (.pt 0), some (.pt 1), some (.pt (n + 2)), some (.pt (n + 3)), some (.cl (.int 0)), none, none, none, none, none, none, none, none, none, none, none, none] (runB (List.replicate n 0) came0 (List.replicate n []) [] ++ []) := by
    have ga : ∀ k, aD (List.replicate n 0) k = 0 := fun k => by
      unfold aD
      cases h : (List.replicate n 0)[k]? with
      | none => rfl
      | some x => exact (List.mem_replicate.mp (List.mem_of_getElem? h)).2
    have gr : ∀ k, rD (List.replicate n ([] : List Int)) k = [] := fun k => by
      unfold rD
      cases h : (List.replicate n ([] : List Int))[k]? with
      | none => rfl
      | some x => exact (List.mem_replicate.mp (List.mem_of_getElem? h)).2
    have gc : ∀ k, k < crowd.length → cD came0 k = stD crowd k := fun k hk => by
      have q1 := List.getElem?_eq_getElem hk
      simp [cD, came0, stD, q1]
    refine ⟨_, _, _, _, 0, [], none, none, none, none, none, none, none, none, none, none, none, none, rfl, rfl, ⟨⟨by simp [hn], by simp [came0], by simp [hn], fun k hk => ?_, fun k hk => ?_, fun k hk => ?_, fun k hk => ?_, fun k hk h => ?_, Int.le_refl _, .inl ⟨rfl, fun k hk => gr k⟩, fun L => ?_⟩, ⟨fun k hk => by rw [gr]; rfl, fun k j L t hk e => by (have := (ride_get e).2; rw [gr] at this; cases this), fun k j k' j' x hk hk' e e' => by (have := (ride_get e).2; rw [gr] at this; cases this), fun k j L t hk e => by (have := (ride_get e).2; rw [gr] at this; cases this), fun M h0 _ => by omega, fun k hk hg u h1 h2 => by (rw [gc k hk] at h1; omega)⟩⟩, Nat.zero_le _, by simp⟩
    · rw [ga]
      obtain ⟨_, e2⟩ := get_rt hk
      rw [e2]
      have := (hl _ (List.getElem_mem hk)).1
      omega
    · rw [ga, gr]; rfl
    · rw [gr, gc k hk]; rfl
    · rw [ga, gc k hk]; omega
    · exact absurd (gr k) h
    · have : doneL crowd (List.replicate n 0) L = 0 := by
        unfold doneL
        have : ((List.range crowd.length).map fun k => cnt ((lanesOf (rt crowd k)).take (aD (List.replicate n 0) k)) L) = (List.range crowd.length).map fun _ => 0 := by
          refine List.map_congr_left fun k _ => ?_
          rw [ga, List.take_zero]; rfl
        rw [this, List.map_const', List.sum_replicate_nat]; omega
      rw [this]; exact Int.le_refl _
  obtain ⟨ρ', cs', e, at_, came, rows, used, beat, g, o9, o10, o11, o12, o13, o14, o15, o16, o17, o18, o19, o20, h1, h2, hI, hfin⟩ := for_rng0B (mg := mgName 9) (mb := L1_law_run) (n := 3000) (TI crowd nums n) (TE_ crowd nums n)
    (fun i ρ cs _ h => run_turn hn h60 hl hnum h)
    (fun ρ cs ⟨at_, came, rows, used, beat, g, o9, o10, o11, o12, o13, o14, o15, o16, o17, o18, o19, o20, h1, h2, hI, hi, hu⟩ => by
      have := tot_le hI.1.a1 hl
      rw [hn] at this
      omega) h0
  subst h1 h2
  have r3 : inB 3999999999999 3000 = true := by decide
  have t3 : Int.toNat 3000 = 3000 := rfl
  have E := sfor_ok (mi := mRng1 (mCons (mC (.int 3000)) mNil)) (cs := runB (List.replicate n 0) came0 (List.replicate n []) [] ++ []) (by simp only [↓bindM, ev, ef, ↓reduceIte, el, r3, t3]) e
  rw [← S1_law_run] at E
  have hr : rows.length = n := hI.1.lr.trans hn
  -- what is handed back
  have hcs : runB at_ came rows used ++ g = [.lst (natW at_), .lst (digW came)] ++ rows.map (fun r => Cell.lst (digW r)) ++ (Cell.lst ((List.range' 2 rows.length).map W.pt) :: Cell.lst (digW used) :: g) := by
    unfold runB
    rw [show cellD = fun r => Cell.lst (digW r) from rfl]
    simp
  have fr := frzs_rows 6 rows [.lst (natW at_), .lst (digW came)] (Cell.lst ((List.range' 2 rows.length).map W.pt) :: Cell.lst (digW used) :: g)
  rw [← hcs, hr] at fr
  change frzs (frz 7) ((List.range' 2 n).map W.pt) _ = _ at fr
  generalize hc2 : [.lst (natW at_), .lst (digW came)] ++ rows.map (fun r => Cell.fz (rowT r)) ++ (Cell.lst ((List.range' 2 n).map W.pt) :: Cell.lst (digW used) :: g) = cs2 at fr
  have t2 : cs2[n + 2]? = some (.lst ((List.range' 2 n).map W.pt)) := by
    rw [← hc2, List.getElem?_append_right (by simp [hr])]
    simp [hr]
  have u2 : cs2[n + 3]? = some (.lst (digW used)) := by
    rw [← hc2, List.getElem?_append_right (by simp [hr])]
    simp [hr]
  have f6 : frz 8 (.pt (n + 2)) (runB at_ came rows used ++ g) = some (.lst (rows.map rowT), cs2.set (n + 2) (.fz (.lst (rows.map rowT)))) := by
    simp only [ep, rbt hr, fr, t2]
  have it : itemsT (.pt (n + 2)) (runB at_ came rows used ++ g) = .ok (rows.map rowT) (cs2.set (n + 2) (.fz (.lst (rows.map rowT)))) := by
    simp only [itemsT, f6]
  have eC6 : C6_law_run [some (.cl (.lst (crowd.map ltT))), some (.cl .non), some (.cl (.lst (nums.map T.int))), some (.cl (.int n)), some (.pt 0), some (.pt 1), some (.pt (n + 2)), some (.pt (n + 3)), some (.cl (.int beat)), o9, o10, o11, o12, o13, o14, o15, o16, o17, o18, o19, o20] (runB at_ came rows used ++ g) = .ok (.cl (.lst ((rows.map id).map bT))) (cs2.set (n + 2) (.fz (.lst (rows.map rowT)))) := by
    unfold C6_law_run
    refine mlc_all rowT bT id rows (by simp only [↓bindM, ev, el, it]) (lLim (by omega)) fun r hrm => ⟨_, rfl, ?_⟩
    simp only [E6_law_run, rowT, bT, ↓bindM, ev, ef, el, id]
  rw [List.map_id] at eC6
  have u3 : (cs2.set (n + 2) (.fz (.lst (rows.map rowT))))[n + 3]? = some (.lst ((used.map T.int).map W.cl)) := by
    rw [List.getElem?_set_ne (by omega)]; exact u2
  have fu := frz_lst (n := 7) u3
  have hcs0 : [Cell.lst (natW (List.replicate n 0)), .lst (digW came0)] ++ List.replicate n (.lst []) ++ [.lst ((List.range' 2 n).map W.pt)] ++ [Cell.lst []] = runB (List.replicate n 0) came0 (List.replicate n []) [] ++ [] := by
    unfold runB
    simp [cellD, digW]
  have ln : ([Cell.lst (natW (List.replicate n 0)), .lst (digW came0)] ++ List.replicate n (Cell.lst []) ++ [Cell.lst ((List.range' 2 n).map W.pt)]).length = n + 3 := by simp
  refine ⟨at_, came, rows, beat, .lst (used.map T.int), hI, fun k hk => hfin k (by omega), run_cl (ρ := [some (.cl _), some (.cl _), some (.cl _), none, none, none, none, none, none, none, none, none, none, none, none, none, none, none, none, none, none]) (cs := (cs2.set (n + 2) (.fz (.lst (rows.map rowT)))).set (n + 3) (.fz (.lst (used.map T.int)))) rfl ?_⟩
  simp only [m_law_run, ↓bindM, ev, ef, ↓reduceIte, el, List.length_map, hn, e1, e2, e3, z, ln, hcs0, E, eC6, lim2, frzs, frz_cl, fu]
end My

namespace My
open PySem L2 G
/-! rides, and what makes a run, in plain terms -/
abbrev Rk := (Int × Int) × Int
def zipR (c : List Ltr) (rows : List (List Int)) (k : Nat) : List Rk := (lanesOf (rt c k)).zip (rD rows k)
/-- all rides, letter by letter -/
def allR (c : List Ltr) (rows : List (List Int)) : List (Rk × Nat) := (List.range c.length).flatMap fun k => (zipR c rows k).map fun x => (x, k)
def rowOf (ps : List (Rk × Nat)) (x : Rk) : List Nat := (ps.filter fun p => decide (p.1 = x)).map (·.2)
theorem rowOf_snoc (ps : List (Rk × Nat)) (x y : Rk) (k : Nat) : rowOf (ps ++ [(y, k)]) x = if y = x then rowOf ps x ++ [k] else rowOf ps x := by
  unfold rowOf
  rw [List.filter_append, List.map_append]
  by_cases h : y = x <;> simp [h]
theorem ride_zip {c : List Ltr} {rows : List (List Int)} {k j : Nat} : rideAt c rows k j = (zipR c rows k)[j]? := rfl
theorem mem_allR {c : List Ltr} {rows : List (List Int)} {x : Rk} : (∃ p ∈ allR c rows, p.1 = x) ↔ Rides c rows x.1 x.2 := by
  unfold allR Rides
  constructor
  · rintro ⟨p, hp, rfl⟩
    obtain ⟨k, hk, hp⟩ := List.mem_flatMap.mp hp
    obtain ⟨y, hy, rfl⟩ := List.mem_map.mp hp
    obtain ⟨j, hj, e⟩ := List.mem_iff_getElem.mp hy
    exact ⟨k, j, List.mem_range.mp hk, by rw [ride_zip, List.getElem?_eq_getElem hj, e]⟩
  · rintro ⟨k, j, hk, e⟩
    rw [ride_zip] at e
    exact ⟨(x, k), List.mem_flatMap.mpr ⟨k, List.mem_range.mpr hk, List.mem_map.mpr ⟨x, List.mem_of_getElem? e, rfl⟩⟩, rfl⟩
/-- no two rides are alike -/
def Uniq (c : List Ltr) (rows : List (List Int)) : Prop := ∀ k j k' j' x, k < c.length → k' < c.length → rideAt c rows k j = some x → rideAt c rows k' j' = some x → k = k' ∧ j = j'
/-- the beats fit the letters -/
def okB (l : Ltr) (b : List Int) : Bool := decide ((b.length : Int) = (l.2.length : Int) - 1) && inc l.1 b
def okBs (c : List Ltr) (rows : List (List Int)) : Bool := decide (rows.length = c.length) && (c.zip rows).all fun p => okB p.1 p.2
theorem zip_at {c : List Ltr} {rows : List (List Int)} (hr : rows.length = c.length) {k : Nat} (hk : k < c.length) : (c.zip rows)[k]? = some (c[k], rD rows k) := by
  have e : rD rows k = rows[k] := by simp [rD, List.getElem?_eq_getElem (show k < rows.length by omega)]
  rw [List.getElem?_eq_getElem (by rw [List.length_zip]; omega), List.getElem_zip, e]
theorem at_k {c : List Ltr} {k : Nat} (hk : k < c.length) : stD c k = c[k].1 ∧ rt c k = c[k].2 := by
  unfold stD rt; rw [List.getElem?_eq_getElem hk]; exact ⟨rfl, rfl⟩
theorem okBs_iff {c : List Ltr} {rows : List (List Int)} : okBs c rows = true ↔ rows.length = c.length ∧ ∀ k, k < c.length → ((rD rows k).length : Int) = ((rt c k).length : Int) - 1 ∧ inc (stD c k) (rD rows k) = true := by
  unfold okBs okB
  rw [Bool.and_eq_true, decide_eq_true_eq]
  constructor
  · rintro ⟨h1, h2⟩
    refine ⟨h1, fun k hk => ?_⟩
    have := List.all_eq_true.mp h2 _ (List.mem_of_getElem? (zip_at h1 hk))
    rw [Bool.and_eq_true, decide_eq_true_eq] at this
    rw [(at_k hk).1, (at_k hk).2]; exact this
  · rintro ⟨h1, h2⟩
    refine ⟨h1, List.all_eq_true.mpr fun p hp => ?_⟩
    obtain ⟨k, hk, e⟩ := List.mem_iff_getElem.mp hp
    have hk2 : k < c.length := by rw [List.length_zip] at hk; omega
    have e2 := zip_at h1 hk2
    rw [List.getElem?_eq_getElem hk, e] at e2
    cases e2
    have := h2 k hk2
    rw [(at_k hk2).1, (at_k hk2).2] at this
    rw [Bool.and_eq_true, decide_eq_true_eq]; exact this
/-- from a, ahead of b -/
def rng (a b : Int) : List Int := (List.range (b - a).toNat).map fun (i : Nat) => a + (i : Int)
theorem rng_mem {a b x : Int} : x ∈ rng a b ↔ a ≤ x ∧ x < b := by
  unfold rng
  rw [List.mem_map]
  constructor
  · rintro ⟨i, hi, rfl⟩; have := List.mem_range.mp hi; omega
  · rintro ⟨h1, h2⟩; exact ⟨(x - a).toNat, List.mem_range.mpr (by omega), by omega⟩
theorem rng_len (a b : Int) : (rng a b).length = (b - a).toNat := by simp [rng]
theorem rng_nodup (a b : Int) : (rng a b).Nodup := by
  unfold rng List.Nodup
  rw [List.pairwise_map]
  exact (List.nodup_range (n := (b - a).toNat)).imp fun h e => h (by omega)
/-- no letter rests, by waits of at most m -/
def restB (m : Int) (K : Rk → Bool) : Int → List Rk → Bool
  | _, [] => true
  | c, (L, b) :: xs => decide (b - c ≤ m) && (rng c b).all (fun t => K (L, t)) && restB m K (b + 1) xs
theorem restB_iff (m : Int) (K : Rk → Bool) : ∀ (xs : List Rk) (c : Int), restB m K c xs = true ↔ ∀ (j : Nat) (L : Int × Int) (b : Int), xs[j]? = some (L, b) → b - lastOr c ((xs.map (·.2)).take j) ≤ m ∧ ∀ u, lastOr c ((xs.map (·.2)).take j) ≤ u → u < b → K (L, u) = true
  | [], c => by simp [restB]
  | (L, b) :: xs, c => by
    rw [restB, Bool.and_eq_true, Bool.and_eq_true, decide_eq_true_eq, restB_iff m K xs (b + 1), List.all_eq_true]
    constructor
    · rintro ⟨⟨h1, h2⟩, h3⟩ j L' b' e
      cases j with
      | zero => cases e; exact ⟨h1, fun u a d => h2 u (rng_mem.mpr ⟨a, d⟩)⟩
      | succ j => exact h3 j L' b' e
    · intro h
      refine ⟨⟨(h 0 L b rfl).1, fun t ht => (h 0 L b rfl).2 t (rng_mem.mp ht).1 (rng_mem.mp ht).2⟩, fun j L' b' e => h (j + 1) L' b' e⟩
theorem nodup_le {l : List Nat} {n : Nat} (nd : l.Nodup) (h : ∀ x ∈ l, x < n) : l.length ≤ n := by
  have := nd.length_le_of_subset (l₂ := List.range n) fun x hx => List.mem_range.mpr (h x hx)
  rwa [List.length_range] at this
section
variable {c : List Ltr} {rows : List (List Int)}
/-- if every beat of a wait was ridden, the wait is no longer than there are letters -/
theorem wait_le (hl : ∀ k, k < c.length → (lanesOf (rt c k)).Nodup) {L : Int × Int} {a b : Int} (h : ∀ u, a ≤ u → u < b → Rides c rows L u) (hb : a ≤ b) : b - a ≤ c.length := by
  have ex : ∀ u : Int, ∃ k : Nat, a ≤ u → u < b → k < c.length ∧ ∃ j, rideAt c rows k j = some (L, u) := fun u => by
    by_cases hu : a ≤ u ∧ u < b
    · obtain ⟨k, j, hk, e⟩ := h u hu.1 hu.2
      exact ⟨k, fun _ _ => ⟨hk, j, e⟩⟩
    · exact ⟨0, fun h1 h2 => absurd ⟨h1, h2⟩ hu⟩
  obtain ⟨f, hf⟩ := Classical.axiomOfChoice ex
  have inj : ∀ u ∈ rng a b, ∀ v ∈ rng a b, f u = f v → u = v := fun u hu v hv e => by
    have hu := rng_mem.mp hu
    have hv := rng_mem.mp hv
    obtain ⟨k1, j1, e1⟩ := hf u hu.1 hu.2
    obtain ⟨k2, j2, e2⟩ := hf v hv.1 hv.2
    rw [← e] at e2
    obtain ⟨l1, t1⟩ := ride_get e1
    obtain ⟨l2, t2⟩ := ride_get e2
    have hj : j1 = j2 := nd_ix (hl _ k1) l1 l2
    subst hj
    rw [t1] at t2
    exact Option.some.inj t2
  have nd : ((rng a b).map f).Nodup := by
    unfold List.Nodup
    rw [List.pairwise_map]
    exact List.Pairwise.imp_of_mem (fun {u v} hu hv ne e => ne (inj u hu v hv e)) (rng_nodup a b)
  have := nodup_le nd (n := c.length) fun x hx => by
    obtain ⟨u, hu, rfl⟩ := List.mem_map.mp hx
    have hu := rng_mem.mp hu
    exact (hf u hu.1 hu.2).1
  rw [List.length_map, rng_len] at this
  omega
/-- no letter rests -/
def NoRest (c : List Ltr) (rows : List (List Int)) : Prop := ∀ k j L t, k < c.length → rideAt c rows k j = some (L, t) → ∀ u, cameAt c rows k j ≤ u → u < t → Rides c rows L u
theorem inc_last {b : List Int} : ∀ {s : Int} {j : Nat} {t : Int}, inc s b = true → b[j]? = some t → lastOr s (b.take j) ≤ t := by
  induction b with
  | nil => intro s j t _ h; cases h
  | cons x xs ih =>
    intro s j t h e
    rw [inc, Bool.and_eq_true, decide_eq_true_eq] at h
    cases j with
    | zero => cases e; exact h.1
    | succ j => exact ih h.2 e
theorem zipR_beats {k : Nat} (hl : ((rD rows k).length : Int) = ((rt c k).length : Int) - 1) : (zipR c rows k).map (·.2) = rD rows k := List.map_snd_zip (by rw [lanesOf_len]; omega)
/-- the look by a bound on waits that is great enough -/
theorem rest_iff {m : Int} (ok : okBs c rows = true) (hl : ∀ k, k < c.length → (lanesOf (rt c k)).Nodup) (hm : (c.length : Int) ≤ m) {K : Rk → Bool} (hK : ∀ x, K x = true ↔ Rides c rows x.1 x.2) :
    (∀ k, k < c.length → restB m K (stD c k) (zipR c rows k) = true) ↔ NoRest c rows := by
  obtain ⟨_, hok⟩ := okBs_iff.mp ok
  constructor
  · intro h k j L t hk e u h1 h2
    have := (restB_iff m K _ _).mp (h k hk) j L t e
    rw [zipR_beats (hok k hk).1] at this
    exact (hK (L, u)).mp (this.2 u h1 h2)
  · intro h k hk
    refine (restB_iff m K _ _).mpr fun j L t e => ?_
    rw [zipR_beats (hok k hk).1]
    have hn := h k j L t hk e
    refine ⟨?_, fun u h1 h2 => (hK (L, u)).mpr (hn u h1 h2)⟩
    have := wait_le hl (a := lastOr (stD c k) ((rD rows k).take j)) (b := t) hn (inc_last (hok k hk).2 (ride_get e).2)
    omega
theorem le_sum (f : Nat → Nat) {k : Nat} : ∀ {n : Nat}, k < n → f k ≤ ((List.range n).map f).sum
  | n + 1, h => by
    rw [List.range_succ, List.map_append, List.sum_append]
    simp only [List.map_cons, List.map_nil, List.sum_cons, List.sum_nil]
    by_cases q : k = n
    · subst q; omega
    · have := le_sum f (k := k) (n := n) (by omega); omega
theorem two_sum (f : Nat → Nat) {k k' : Nat} (hne : k < k') : ∀ {n : Nat}, k' < n → f k + f k' ≤ ((List.range n).map f).sum
  | n + 1, h => by
    rw [List.range_succ, List.map_append, List.sum_append]
    simp only [List.map_cons, List.map_nil, List.sum_cons, List.sum_nil]
    by_cases q : k' = n
    · subst q; have := le_sum f (k := k) (n := k') hne; omega
    · have := two_sum f hne (n := n) (by omega); omega
theorem sum1 (f : Nat → Nat) : ∀ n : Nat, ((List.range n).map f).sum ≤ 1 ↔ (∀ k, k < n → f k ≤ 1) ∧ ∀ k k', k < n → k' < n → 0 < f k → 0 < f k' → k = k' := fun n => by
  constructor
  · intro h
    refine ⟨fun k hk => Nat.le_trans (le_sum f hk) h, fun k k' hk hk' p p' => ?_⟩
    rcases Nat.lt_trichotomy k k' with q | q | q
    · have := two_sum f q hk'; omega
    · exact q
    · have := two_sum f q hk; omega
  · intro ⟨h1, h2⟩
    induction n with
    | zero => simp
    | succ n ih =>
      have ih := ih (fun k hk => h1 k (by omega)) fun k k' hk hk' => h2 k k' (by omega) (by omega)
      rw [List.range_succ, List.map_append, List.sum_append]
      simp only [List.map_cons, List.map_nil, List.sum_cons, List.sum_nil]
      by_cases z : f n = 0
      · omega
      · have : ((List.range n).map f).sum ≤ ((List.range n).map fun _ => 0).sum := sum_le fun k hk => by
          have hk := List.mem_range.mp hk
          by_cases zk : f k = 0
          · omega
          · have := h2 k n (by omega) (by omega) (by omega) (by omega); omega
        rw [List.map_const', List.sum_replicate_nat] at this
        have := h1 n (by omega)
        omega
theorem count_one (x : Rk) : ∀ l : List Rk, (l.countP fun y => decide (y = x)) ≤ 1 ↔ ∀ i j : Nat, l[i]? = some x → l[j]? = some x → i = j
  | [] => by simp
  | y :: l => by
    have ih := count_one x l
    rw [List.countP_cons]
    by_cases hy : y = x
    · simp only [hy, decide_true, if_true]
      constructor
      · intro h i j hi hj
        have no : ∀ i : Nat, l[i]? ≠ some x := fun i e => by
          have z : (l.countP fun y => decide (y = x)) = 0 := by omega
          have := List.countP_eq_zero.mp z x (List.mem_of_getElem? e)
          simp at this
        cases i with
        | zero => cases j with
          | zero => rfl
          | succ j => exact absurd hj (no j)
        | succ i => exact absurd hi (no i)
      · intro h
        have z : (l.countP fun y => decide (y = x)) = 0 := by
          rw [List.countP_eq_zero]
          intro z hz q
          have q : z = x := by simpa using q
          obtain ⟨i, hi, e⟩ := List.mem_iff_getElem.mp hz
          have := h 0 (i + 1) rfl (by rw [List.getElem?_cons_succ, List.getElem?_eq_getElem hi, e, q])
          omega
        omega
    · simp only [hy, decide_false, Bool.false_eq_true, if_false, Nat.add_zero]
      rw [ih]
      constructor
      · intro h i j hi hj
        cases i with
        | zero => exact absurd (Option.some.inj hi) hy
        | succ i => cases j with
          | zero => exact absurd (Option.some.inj hj) hy
          | succ j => exact congrArg (· + 1) (h i j hi hj)
      · intro h i j hi hj
        have := h (i + 1) (j + 1) hi hj
        omega
def cntK (c : List Ltr) (rows : List (List Int)) (x : Rk) (k : Nat) : Nat := (zipR c rows k).countP fun y => decide (y = x)
theorem cntK_pos {x : Rk} {k : Nat} : 0 < cntK c rows x k ↔ ∃ j, rideAt c rows k j = some x := by
  unfold cntK
  rw [List.countP_pos_iff]
  constructor
  · rintro ⟨y, hy, q⟩
    have q : y = x := by simpa using q
    obtain ⟨i, hi, e⟩ := List.mem_iff_getElem.mp hy
    exact ⟨i, by rw [ride_zip, List.getElem?_eq_getElem hi, e, q]⟩
  · rintro ⟨j, e⟩
    exact ⟨x, List.mem_of_getElem? e, by simp⟩
theorem rowOf_len (x : Rk) : (rowOf (allR c rows) x).length = ((List.range c.length).map (cntK c rows x)).sum := by
  have : ∀ n : Nat, (rowOf ((List.range n).flatMap fun k => (zipR c rows k).map fun y => (y, k)) x).length = ((List.range n).map (cntK c rows x)).sum := by
    intro n
    induction n with
    | zero => rfl
    | succ n ih =>
      rw [List.range_succ, List.flatMap_append, List.map_append, List.sum_append]
      unfold rowOf at ih ⊢
      rw [List.filter_append, List.map_append, List.length_append, ih]
      simp only [List.flatMap_cons, List.flatMap_nil, List.append_nil, List.map_cons, List.map_nil, List.sum_cons, List.sum_nil, Nat.add_zero]
      rw [List.filter_map, List.length_map, List.length_map, ← List.countP_eq_length_filter]
      rfl
  exact this c.length
/-- one row for each ride -/
theorem uniq_iff : Uniq c rows ↔ ∀ x, (∃ p ∈ allR c rows, p.1 = x) → (rowOf (allR c rows) x).length = 1 := by
  have key : ∀ x, ((List.range c.length).map (cntK c rows x)).sum ≤ 1 ↔ ∀ k j k' j', k < c.length → k' < c.length → rideAt c rows k j = some x → rideAt c rows k' j' = some x → k = k' ∧ j = j' := fun x => by
    rw [sum1]
    constructor
    · rintro ⟨h1, h2⟩ k j k' j' hk hk' e e'
      have := h2 k k' hk hk' (cntK_pos.mpr ⟨j, e⟩) (cntK_pos.mpr ⟨j', e'⟩)
      subst this
      exact ⟨rfl, (count_one x _).mp (h1 k hk) j j' e e'⟩
    · intro h
      refine ⟨fun k hk => (count_one x _).mpr fun i j hi hj => (h k i k j hk hk hi hj).2, fun k k' hk hk' p p' => ?_⟩
      obtain ⟨j, e⟩ := cntK_pos.mp p
      obtain ⟨j', e'⟩ := cntK_pos.mp p'
      exact (h k j k' j' hk hk' e e').1
  have pos : ∀ x, (∃ p ∈ allR c rows, p.1 = x) → 0 < (rowOf (allR c rows) x).length := fun x ⟨p, hp, e⟩ => by
    refine List.length_pos_of_mem (a := p.2) ?_
    unfold rowOf
    exact List.mem_map.mpr ⟨p, List.mem_filter.mpr ⟨hp, by simpa using e⟩, rfl⟩
  constructor
  · intro U x hx
    have h1 := (key x).mpr fun k j k' j' hk hk' e e' => U k j k' j' x hk hk' e e'
    rw [← rowOf_len] at h1
    have := pos x hx
    omega
  · intro h k j k' j' x hk hk' e e'
    have := h x (mem_allR.mpr ⟨k, j, hk, e⟩)
    rw [rowOf_len] at this
    exact (key x).mp (by omega) k j k' j' hk hk' e e'
end
end My

namespace My
open PySem L2 G
theorem p_lanes (r : List Int) (hr : r.length ≤ 1000) : g_route_lanes [.tup (r.map T.int)] = some (.tup ((lanesOf r).map pT)) := by
  have ri := rgi (j := ((r.length : Int) - 1)) (by omega)
  have tn : ((r.length : Int) - 1).toNat = r.length - 1 := by omega
  have eC : C1_route_lanes [some (.cl (.tup (r.map T.int))), none] [] = .ok (.cl (.lst ((lanesOf r).map pT))) [] := by
    unfold C1_route_lanes lanesOf
    refine mlc_all natT pT _ (List.range (r.length - 1)) (by simp only [↓bindM, ev, ef, ↓reduceIte, el, List.length_map, ri, tn, rangeT, Int.zero_add]; rfl) (lLim (by simp; omega)) fun k hk => ⟨_, rfl, ?_⟩
    have hk := List.mem_range.mp hk
    have g0 : (r.map T.int)[k]? = some (T.int (r[k]?.getD 0)) := by rw [List.getElem?_map, List.getElem?_eq_getElem (by omega)]; rfl
    have g1 : (r.map T.int)[k + 1]? = some (T.int (r[k + 1]?.getD 0)) := by rw [List.getElem?_map, List.getElem?_eq_getElem (by omega)]; rfl
    have c1 : ((k : Nat) : Int) + 1 = ((k + 1 : Nat) : Int) := by omega
    simp only [E1_route_lanes, natT, ↓bindM, ev, ef, ↓reduceIte, el, gx_nat, g0, c1, g1, lim2, pT]
  refine run_cl (ρ := [some (.cl _), none]) (cs := []) rfl ?_
  simp only [m_route_lanes, ↓bindM, ev, ef, el, eC]
/-- a ride as a key -/
def nkR (x : Rk) : NestedKey := .tup [.tup [.num x.1.1, .num x.1.2], .num x.2]
theorem nkR_inj : ∀ a b, nkR a = nkR b → a = b := fun ⟨⟨a, b⟩, c⟩ ⟨⟨d, e⟩, f⟩ h => by simp [nkR] at h; simp [h]
theorem nkR_depth (x : Rk) : (nkR x).depth ≤ 8 := by simp [nkR, NestedKey.depth, NestedKey.depthAll]
def rkT (x : Rk) : T := .tup [pT x.1, .int x.2]
theorem keyR (x : Rk) : keyWN (.cl (rkT x)) = some (nkR x) := by
  simp only [rkT, pT, keyWN, keyNs, keyN, Option.map_some, nkR]
structure EntR where
  key : Rk
  p : Nat
/-- the rides found so far, in their dict -/
structure Fnd (ps : List (Rk × Nat)) (cs : Cs) (D : List EntR) : Prop where
  dict : cs[0]? = some (.dN (D.map fun e => nkR e.key) (D.map fun e => W.pt e.p))
  ent : ∀ e ∈ D, cs[e.p]? = some (.lst (natW (rowOf ps e.key))) ∧ e.p ≠ 0
  pn : (D.map EntR.p).Nodup
  kn : (D.map EntR.key).Nodup
  all : ∀ x, (∃ p ∈ ps, p.1 = x) ↔ ∃ e ∈ D, e.key = x
  len : D.length ≤ ps.length
theorem rowOf_le (ps : List (Rk × Nat)) (x : Rk) : (rowOf ps x).length ≤ ps.length := by
  unfold rowOf; rw [List.length_map]; exact List.length_filter_le _ _
theorem rowOf_none {ps : List (Rk × Nat)} {x : Rk} (h : ¬ ∃ p ∈ ps, p.1 = x) : rowOf ps x = [] := by
  unfold rowOf
  rw [List.map_eq_nil_iff, List.filter_eq_nil_iff]
  intro p hp q
  exact h ⟨p, hp, by simpa using q⟩
section
variable {ps : List (Rk × Nat)} {cs : Cs} {D : List EntR}
theorem Fnd.old (h : Fnd ps cs D) {e : EntR} (he : e ∈ D) {k : Nat} : Fnd (ps ++ [(e.key, k)]) ((cs ++ [Cell.lst []]).set e.p (.lst (natW (rowOf ps e.key ++ [k])))) D := by
  have hp := (List.getElem?_eq_some_iff.mp (h.ent e he).1).1
  refine ⟨?_, fun x hx => ?_, h.pn, h.kn, fun x => ?_, by have := h.len; simp; omega⟩
  · rw [List.getElem?_set_ne (h.ent e he).2]; exact snocg h.dict
  · obtain ⟨a1, a2⟩ := h.ent x hx
    rw [rowOf_snoc]
    by_cases hl : x = e
    · subst hl
      rw [if_pos rfl]
      exact ⟨by rw [List.getElem?_set_self (by simp; omega)], a2⟩
    · have hk : ¬ e.key = x.key := fun q => hl (nodup_map_inj h.kn hx he q.symm)
      rw [if_neg hk]
      exact ⟨by rw [List.getElem?_set_ne (fun q => hl (nodup_map_inj h.pn hx he q.symm)), snocg a1], a2⟩
  · rw [← h.all x]
    constructor
    · rintro ⟨p, hp, rfl⟩
      rcases List.mem_append.mp hp with hp | hp
      · exact ⟨p, hp, rfl⟩
      · have : p = (e.key, k) := by simpa using hp
        subst this
        exact (h.all _).mpr ⟨e, he, rfl⟩
    · rintro ⟨p, hp, e⟩
      exact ⟨p, List.mem_append_left _ hp, e⟩
theorem Fnd.new (h : Fnd ps cs D) {x : Rk} (hx : ∀ e ∈ D, e.key ≠ x) {k : Nat} :
    Fnd (ps ++ [(x, k)]) (((cs ++ [Cell.lst []]).set 0 (.dN ((D.map fun e => nkR e.key) ++ [nkR x]) ((D.map fun e => W.pt e.p) ++ [W.pt cs.length]))).set cs.length (.lst (natW [k]))) (D ++ [⟨x, cs.length⟩]) := by
  have hj := (List.getElem?_eq_some_iff.mp h.dict).1
  refine ⟨?_, fun e he => ?_, ?_, ?_, fun y => ?_, by have := h.len; simp; omega⟩
  · rw [List.getElem?_set_ne (by omega), List.getElem?_set_self (by simp)]
    simp
  · rw [rowOf_snoc]
    rcases List.mem_append.mp he with he | he
    · obtain ⟨a1, a2⟩ := h.ent e he
      have := (List.getElem?_eq_some_iff.mp a1).1
      rw [if_neg (fun q => hx e he q.symm)]
      exact ⟨by rw [List.getElem?_set_ne (by omega), List.getElem?_set_ne (Ne.symm a2), snocg a1], a2⟩
    · have : e = ⟨x, cs.length⟩ := by simpa using he
      subst this
      rw [if_pos rfl, rowOf_none (fun q => by obtain ⟨e, he, q⟩ := (h.all x).mp q; exact hx e he q)]
      exact ⟨by rw [List.getElem?_set_self (by simp)]; rfl, by dsimp only; omega⟩
  · rw [List.map_append]
    refine nodup_snoc h.pn fun hm => ?_
    obtain ⟨e, he, hp⟩ := List.mem_map.mp hm
    have := (List.getElem?_eq_some_iff.mp (h.ent e he).1).1
    dsimp only at hp; omega
  · rw [List.map_append]
    refine nodup_snoc h.kn fun hm => ?_
    obtain ⟨e, he, hp⟩ := List.mem_map.mp hm
    exact hx e he hp
  · constructor
    · rintro ⟨p, hp, rfl⟩
      rcases List.mem_append.mp hp with hp | hp
      · obtain ⟨e, he, q⟩ := (h.all _).mp ⟨p, hp, rfl⟩
        exact ⟨e, List.mem_append_left _ he, q⟩
      · have : p = (x, k) := by simpa using hp
        subst this
        exact ⟨⟨x, cs.length⟩, List.mem_append_right _ (List.mem_singleton.mpr rfl), rfl⟩
    · rintro ⟨e, he, rfl⟩
      rcases List.mem_append.mp he with he | he
      · obtain ⟨p, hp, q⟩ := (h.all _).mpr ⟨e, he, rfl⟩
        exact ⟨p, List.mem_append_left _ hp, q⟩
      · have : e = ⟨x, cs.length⟩ := by simpa using he
        subst this
        exact ⟨(x, k), List.mem_append_right _ (List.mem_singleton.mpr rfl), rfl⟩
end
theorem zipTs_rides (Ls : List (Int × Int)) (bs : List Int) : zipTs (Ls.map pT) (bs.map T.int) = (Ls.zip bs).map rkT := by
  induction Ls generalizing bs with
  | nil => cases bs <;> rfl
  | cons l ls ih => cases bs with
    | nil => rfl
    | cons b bs => simp only [List.map_cons, zipTs, List.zip_cons_cons, ih, rkT]
section
variable {c : List Ltr} {rows : List (List Int)}
theorem car_inner {cr ca : T} {k : Nat} {st : Option W} (L : List (Int × Int)) (hL : g_route_lanes [ro] = some (.tup (L.map pT))) {bs : List Int} (hx : ∀ cs, fIx (.cl ca) (.cl (.int (k : Nat))) cs = .ok (.cl (bT bs)) cs) {ps : List (Rk × Nat)} {cs : Cs} {D : List EntR} (h : Fnd ps cs D) (hl : ps.length + (L.zip bs).length ≤ 100000) {o6 o7 : Option W} :
    ∃ cs' D' o6' o7', S2_carriers [some (.cl cr), some (.cl ca), some (.pt 0), some (.cl (.int (k : Nat))), st, some (.cl ro), o6, o7] cs = .ok (.nx [some (.cl cr), some (.cl ca), some (.pt 0), some (.cl (.int (k : Nat))), st, some (.cl ro), o6', o7']) cs' ∧ Fnd (ps ++ (L.zip bs).map fun x => (x, k)) cs' D' := by
  obtain ⟨ρ', cs', e, D', o6', o7', rfl, hF⟩ := for_ix (mg := mgTup 2 (mgCons (mgName 6) (mgCons (mgName 7) mgNil))) (mb := L2_carriers) (ts := (L.zip bs).map rkT)
    (fun i ρ cs => ∃ D o6 o7, ρ = [some (.cl cr), some (.cl ca), some (.pt 0), some (.cl (.int (k : Nat))), st, some (.cl ro), o6, o7] ∧ Fnd (ps ++ ((L.zip bs).take i).map fun x => (x, k)) cs D)
    (fun i t ρ cs ht ⟨D, o6, o7, h2, hF⟩ => by
      subst h2
      rw [List.getElem?_map] at ht
      obtain ⟨x, hx, rfl⟩ := Option.map_eq_some_iff.mp ht
      have hi := (List.getElem?_eq_some_iff.mp hx).1
      have tk : (L.zip bs).take (i + 1) = (L.zip bs).take i ++ [x] := by rw [List.take_add_one, hx]; rfl
      rw [tk, List.map_append, ← List.append_assoc]
      generalize hps : (ps ++ ((L.zip bs).take i).map fun x => (x, k)) = qs at hF
      have hql : qs.length ≤ 100000 := by rw [← hps]; simp; omega
      have lim : (D.map fun e => nkR e.key).length < LIM := by rw [List.length_map]; have := hF.len; unfold LIM; omega
      have hj := (List.getElem?_eq_some_iff.mp hF.dict).1
      have sd := setdN_at (x := W.pt cs.length) (snocg (c := Cell.lst []) hF.dict) (keyR x) lim (nkR_depth x)
      rw [look_mapG nkR nkR_inj EntR.key] at sd
      have nd0 : ∀ c, ndW (cs ++ [c]) (.pt 0) = some ((D.map fun e => nkR e.key), (D.map fun e => W.pt e.p)) := fun c => by simp only [ndW, snocg hF.dict]
      have nd1 : ndW cs (.pt 0) = some ((D.map fun e => nkR e.key), (D.map fun e => W.pt e.p)) := by simp only [ndW, hF.dict]
      have z : (0 ≤ LIM) = True := by unfold LIM; decide
      have wk : ∀ r : List Nat, natW r ++ [W.cl (.int k)] = natW (r ++ [k]) := fun r => by simp [natW, digW]
      simp only [rkT] at sd
      cases hf : D.find? (fun e => decide (e.key = x)) with
      | some e =>
        have he := List.mem_of_find?_eq_some hf
        have hel : e.key = x := by simpa using List.find?_some hf
        rw [hf] at sd
        dsimp only [Option.map_some] at sd
        obtain ⟨a1, a2⟩ := hF.ent e he
        have lim2' : (natW (rowOf qs e.key)).length < LIM := by rw [natW_len]; have := rowOf_le qs e.key; unfold LIM; omega
        have ce := snocg (c := Cell.lst []) a1
        refine ⟨_, _, ?_, D, some (.cl (pT x.1)), some (.cl (.int x.2)), rfl, by rw [← hel]; exact hF.old he⟩
        simp only [stepF, L2_carriers, rkT, ↓bindM, ev, ef, ↓reduceIte, el, ep, en, nd1, z, lim2, sd, ce, lim2', wk]
      | none =>
        have hne : ∀ e ∈ D, e.key ≠ x := fun e he q => by
          have := List.find?_eq_none.mp hf e he
          simp [q] at this
        rw [hf] at sd
        dsimp only [Option.map_none] at sd
        have ce : ∀ c : Cell, (((cs ++ [Cell.lst []]).set 0 c)[cs.length]?) = some (.lst (natW [])) := fun c => by
          rw [List.getElem?_set_ne (by omega)]; simp [natW, digW]
        have lim2' : (natW []).length < LIM := by rw [natW_len]; unfold LIM; simp
        refine ⟨_, _, ?_, _, some (.cl (pT x.1)), some (.cl (.int x.2)), rfl, hF.new hne⟩
        simp only [stepF, L2_carriers, rkT, ↓bindM, ev, ef, ↓reduceIte, el, ep, en, nd1, z, lim2, sd, ce, lim2', wk, List.nil_append])
    (ρ := [some (.cl cr), some (.cl ca), some (.pt 0), some (.cl (.int (k : Nat))), st, some (.cl ro), o6, o7]) (cs := cs) ⟨D, o6, o7, rfl, by simpa using h⟩
  rw [List.length_map, List.take_length] at hF
  refine ⟨cs', D', o6', o7', ?_, hF⟩
  unfold S2_carriers
  refine sfor_ok ?_ e
  simp only [↓bindM, ev, ef, ↓reduceIte, el, hL, isSc, hx, bT, zipTs_rides]
theorem p_carriers (hr : rows.length = c.length) (h60 : c.length ≤ 60) (hl : ∀ l ∈ c, l.2.length ≤ 30) : ∃ ks : List Rk, ks.Nodup ∧ (∀ x, x ∈ ks ↔ ∃ p ∈ allR c rows, p.1 = x) ∧
    g_carriers [.tup (c.map ltT), .tup (rows.map bT)] = some (.dN (ks.map nkR) (ks.map fun x => .lst ((rowOf (allR c rows) x).map natT))) := by
  let pre (n : Nat) : List (Rk × Nat) := (List.range n).flatMap fun k => (zipR c rows k).map fun x => (x, k)
  have zl : ∀ k, (zipR c rows k).length ≤ 30 := fun k => by
    unfold zipR
    rw [List.length_zip, lanesOf_len]
    by_cases hk : k < c.length
    · rw [(at_k hk).2]; have := hl _ (List.getElem_mem hk); omega
    · have : rt c k = [] := by unfold rt; rw [List.getElem?_eq_none (by omega)]; rfl
      rw [this]; simp
  have pl : ∀ n, (pre n).length ≤ 30 * n := fun n => by
    induction n with
    | zero => simp [pre]
    | succ n ih =>
      have e : pre (n + 1) = pre n ++ (zipR c rows n).map fun x => (x, n) := by
        show List.flatMap _ (List.range (n + 1)) = _
        rw [List.range_succ, List.flatMap_append]
        simp only [List.flatMap_cons, List.flatMap_nil, List.append_nil]
        rfl
      rw [e, List.length_append, List.length_map]
      have := zl n; omega
  obtain ⟨ρ', cs', e, D, o3, o4, o5, o6, o7, rfl, hF⟩ := for_ix (mg := mgTup 2 (mgCons (mgName 3) (mgCons (mgTup 2 (mgCons (mgName 4) (mgCons (mgName 5) mgNil))) mgNil))) (mb := L1_carriers) (ts := enumFrom 0 (c.map ltT))
    (fun i ρ cs => ∃ D o3 o4 o5 o6 o7, ρ = [some (.cl (.tup (c.map ltT))), some (.cl (.tup (rows.map bT))), some (.pt 0), o3, o4, o5, o6, o7] ∧ Fnd (pre i) cs D)
    (fun i t ρ cs ht ⟨D, o3, o4, o5, o6, o7, h2, hF⟩ => by
      subst h2
      have hi : i < c.length := by
        have := (List.getElem?_eq_some_iff.mp ht).1
        rwa [enumFrom_len, List.length_map] at this
      have e1 := enumFrom_get (k := 0) (show (c.map ltT)[i]? = some (ltT c[i]) by rw [List.getElem?_map, List.getElem?_eq_getElem hi]; rfl)
      rw [ht] at e1
      cases e1
      have pL := p_lanes c[i].2 (by have := hl _ (List.getElem_mem hi); omega)
      have gb : (rows.map bT)[i]? = some (bT (rD rows i)) := by rw [List.getElem?_map, get_rD (by omega)]; rfl
      have es : pre (i + 1) = pre i ++ ((lanesOf c[i].2).zip (rD rows i)).map fun x => (x, i) := by
        show List.flatMap _ (List.range (i + 1)) = _
        rw [List.range_succ, List.flatMap_append]
        simp only [List.flatMap_cons, List.flatMap_nil, List.append_nil]
        unfold zipR; rw [(at_k hi).2]; rfl
      obtain ⟨cs', D', q6, q7, e2, hF'⟩ := car_inner (cr := .tup (c.map ltT)) (ca := .tup (rows.map bT)) (st := some (.cl (.int c[i].1))) (k := i) (o6 := o6) (o7 := o7) (lanesOf c[i].2) pL (bs := rD rows i) (fun cs => by simp only [ef, gx_nat, gb]) hF (by
        have h1 := pl i
        have h2 := zl i
        unfold zipR at h2; rw [(at_k hi).2] at h2
        omega)
      refine ⟨_, _, ?_, D', some (.cl (.int i)), some (.cl (.int c[i].1)), some (.cl (.tup (c[i].2.map T.int))), q6, q7, rfl, by rw [es]; exact hF'⟩
      simp only [stepF, L1_carriers, ltT, ↓bindM, ev, ef, ↓reduceIte, el, Nat.zero_add, e2])
    (ρ := [some (.cl (.tup (c.map ltT))), some (.cl (.tup (rows.map bT))), some (.pt 0), none, none, none, none, none]) (cs := [.dN [] []])
    ⟨[], none, none, none, none, none, rfl, ⟨rfl, (fun e he => nomatch he), List.nodup_nil, List.nodup_nil, fun x => by simp [pre], Nat.zero_le _⟩⟩
  rw [enumFrom_len, List.length_map] at hF
  change Fnd (allR c rows) cs' D at hF
  refine ⟨D.map EntR.key, hF.kn, fun x => ?_, ?_⟩
  · rw [hF.all x, List.mem_map]
  · have eS := sfor_ok (mi := mEnumerate (mCons (mVar 0) mNil)) (cs := [Cell.dN [] []]) (by simp only [↓bindM, ev, ef, el]) e
    rw [← S1_carriers] at eS
    obtain ⟨cs2, f1, f2⟩ := frzs_pts 6 (D.map fun e => (e.p, (rowOf (allR c rows) e.key).map natT)) cs' (by rw [List.map_map]; exact hF.pn) fun x hx => by
      obtain ⟨e, he, rfl⟩ := List.mem_map.mp hx
      have := (hF.ent e he).1
      rw [this]; simp [natW, digW, natT]
    have g2 : cs2[0]? = cs'[0]? := f2 0 fun hm => by
      rw [List.map_map] at hm
      obtain ⟨e, he, q⟩ := List.mem_map.mp hm
      exact (hF.ent e he).2 q
    rw [List.map_map, List.map_map] at f1
    refine run_rt (ρ := [some (.cl _), some (.cl _), none, none, none, none, none, none]) rfl ?_ (t := .dN ((D.map EntR.key).map nkR) ((D.map EntR.key).map fun x => .lst ((rowOf (allR c rows) x).map natT))) (cs' := cs2.set 0 (.fz (.dN ((D.map EntR.key).map nkR) ((D.map EntR.key).map fun x => .lst ((rowOf (allR c rows) x).map natT))))) ?_ (w := .pt 0) (cs := cs')
    · simp only [m_carriers, ↓bindM, ev, ef, ↓reduceIte, el, en, List.nil_append, eS]
    · show frzC (frzs (frz 7)) 0 cs' = _
      simp only [frzC, hF.dict]
      rw [show (D.map fun e => W.pt e.p) = List.map ((fun e => W.pt e.1) ∘ fun e : EntR => (e.p, (rowOf (allR c rows) e.key).map natT)) D from rfl, f1]
      simp only [g2, hF.dict, List.map_map]
      rfl
end
end My

namespace My
open PySem L2 G
theorem inc_app {s : Int} {a b : List Int} (h : inc s (a ++ b) = true) : inc s a = true := by
  induction a generalizing s with
  | nil => rfl
  | cons x xs ih =>
    rw [List.cons_append, inc, Bool.and_eq_true] at h
    rw [inc, Bool.and_eq_true]
    exact ⟨h.1, ih h.2⟩
theorem beats_go {w0 w1 w2 w3 w4 : Option W} : ∀ (b : List Int) (s : Int) (o6 : Option W), ∃ f, forGo (mgName 6) L2_are_beats (b.map T.int) [w0, w1, w2, w3, w4, some (.cl (.int s)), o6] [] = .ok f [] ∧
    (inc s b = true → ∃ p5 p6, f = .nx [w0, w1, w2, w3, w4, p5, p6]) ∧ (inc s b = false → f = .rt (.cl (.bl false)))
  | [], s, o6 => ⟨_, rfl, fun _ => ⟨_, _, rfl⟩, fun h => by simp [inc] at h⟩
  | x :: b, s, o6 => by
    rw [List.map_cons, forGo_cons]
    by_cases h : s ≤ x
    · obtain ⟨f, e, f1, f2⟩ := beats_go (w0 := w0) (w1 := w1) (w2 := w2) (w3 := w3) (w4 := w4) b (x + 1) (some (.cl (.int x)))
      have d : decide (x < s) = false := decide_eq_false (by omega)
      have s1 : stepF (mgName 6) L2_are_beats (.int x) [w0, w1, w2, w3, w4, some (.cl (.int s)), o6] [] = .ok (.nx [w0, w1, w2, w3, w4, some (.cl (.int (x + 1))), some (.cl (.int x))]) [] := by
        simp only [stepF, L2_are_beats, ↓bindM, ev, ef, ↓reduceIte, el, d]
      have i1 : inc s (x :: b) = inc (x + 1) b := by rw [inc, decide_eq_true h, Bool.true_and]
      rw [s1, i1]
      exact ⟨f, e, f1, f2⟩
    · have d : decide (x < s) = true := decide_eq_true (by omega)
      have s1 : stepF (mgName 6) L2_are_beats (.int x) [w0, w1, w2, w3, w4, some (.cl (.int s)), o6] [] = .ok (.rt (.cl (.bl false))) [] := by
        simp only [stepF, L2_are_beats, ↓bindM, ev, ef, ↓reduceIte, el, d]
      have i1 : inc s (x :: b) = false := by rw [inc, decide_eq_false h, Bool.false_and]
      rw [s1, i1]
      exact ⟨_, rfl, fun q => Bool.noConfusion q, fun _ => rfl⟩
theorem letters_go {w0 w1 : Option W} : ∀ (ps : List (Ltr × List Int)) (o2 o3 o4 o5 o6 : Option W), ∃ f, forGo (mgTup 2 (mgCons (mgTup 2 (mgCons (mgName 2) (mgCons (mgName 3) mgNil))) (mgCons (mgName 4) mgNil))) L1_are_beats (ps.map fun p => T.tup [ltT p.1, bT p.2]) [w0, w1, o2, o3, o4, o5, o6] [] = .ok f [] ∧
    ((ps.all fun p => okB p.1 p.2) = true → ∃ p2 p3 p4 p5 p6, f = .nx [w0, w1, p2, p3, p4, p5, p6]) ∧ ((ps.all fun p => okB p.1 p.2) = false → f = .rt (.cl (.bl false)))
  | [], _, _, _, _, _ => ⟨_, rfl, fun _ => ⟨_, _, _, _, _, rfl⟩, fun h => by simp at h⟩
  | (l, b) :: ps, o2, o3, o4, o5, o6 => by
    rw [List.map_cons, forGo_cons, List.all_cons]
    have i1 : okB l b = (decide ((b.length : Int) = (l.2.length : Int) - 1) && inc l.1 b) := rfl
    by_cases hl : (b.length : Int) = (l.2.length : Int) - 1
    · have d : (!decide ((b.length : Int) = (l.2.length : Int) - 1)) = false := by rw [decide_eq_true hl]; rfl
      obtain ⟨f, e, f1, f2⟩ := beats_go (w0 := w0) (w1 := w1) (w2 := some (.cl (.int l.1))) (w3 := some (.cl (.tup (l.2.map T.int)))) (w4 := some (.cl (bT b))) b l.1 o6
      have E := sfor_ok (mi := mSeq (mVar 4)) (mg := mgName 6) (mb := L2_are_beats) (cs := []) (cs1 := []) (ts := b.map T.int) (ρ := [w0, w1, some (.cl (.int l.1)), some (.cl (.tup (l.2.map T.int))), some (.cl (bT b)), some (.cl (.int l.1)), o6]) (by simp only [bT, ↓bindM, ev, ef, el]) e
      rw [← S2_are_beats] at E
      simp only [bT] at E
      rw [i1, decide_eq_true hl, Bool.true_and]
      cases hi : inc l.1 b with
      | true =>
        obtain ⟨p5, p6, rfl⟩ := f1 hi
        obtain ⟨f', e', g1, g2⟩ := letters_go (w0 := w0) (w1 := w1) ps (some (.cl (.int l.1))) (some (.cl (.tup (l.2.map T.int)))) (some (.cl (bT b))) p5 p6
        have s1 : stepF (mgTup 2 (mgCons (mgTup 2 (mgCons (mgName 2) (mgCons (mgName 3) mgNil))) (mgCons (mgName 4) mgNil))) L1_are_beats (.tup [ltT l, bT b]) [w0, w1, o2, o3, o4, o5, o6] [] = .ok (.nx [w0, w1, some (.cl (.int l.1)), some (.cl (.tup (l.2.map T.int))), some (.cl (bT b)), p5, p6]) [] := by
          simp only [stepF, L1_are_beats, ltT, bT, ↓bindM, ev, ef, ↓reduceIte, el, List.length_map, d, E]
        rw [s1, Bool.true_and]
        exact ⟨f', e', g1, g2⟩
      | false =>
        have := f2 hi
        subst this
        have s1 : stepF (mgTup 2 (mgCons (mgTup 2 (mgCons (mgName 2) (mgCons (mgName 3) mgNil))) (mgCons (mgName 4) mgNil))) L1_are_beats (.tup [ltT l, bT b]) [w0, w1, o2, o3, o4, o5, o6] [] = .ok (.rt (.cl (.bl false))) [] := by
          simp only [stepF, L1_are_beats, ltT, bT, ↓bindM, ev, ef, ↓reduceIte, el, List.length_map, d, E]
        rw [s1, Bool.false_and]
        exact ⟨_, rfl, fun q => Bool.noConfusion q, fun _ => rfl⟩
    · have d : (!decide ((b.length : Int) = (l.2.length : Int) - 1)) = true := by rw [decide_eq_false hl]; rfl
      have s1 : stepF (mgTup 2 (mgCons (mgTup 2 (mgCons (mgName 2) (mgCons (mgName 3) mgNil))) (mgCons (mgName 4) mgNil))) L1_are_beats (.tup [ltT l, bT b]) [w0, w1, o2, o3, o4, o5, o6] [] = .ok (.rt (.cl (.bl false))) [] := by
        simp only [stepF, L1_are_beats, ltT, bT, ↓bindM, ev, ef, ↓reduceIte, el, List.length_map, d]
      rw [s1, i1, decide_eq_false hl, Bool.false_and, Bool.false_and]
      exact ⟨_, rfl, fun q => Bool.noConfusion q, fun _ => rfl⟩
theorem p_are_beats (c : List Ltr) (rows : List (List Int)) : g_are_beats [.tup (c.map ltT), .tup (rows.map bT)] = some (.bl (okBs c rows)) := by
  by_cases hr : rows.length = c.length
  · have d : (!decide ((rows.length : Int) = (c.length : Int))) = false := by rw [decide_eq_true (by omega)]; rfl
    obtain ⟨f, e, f1, f2⟩ := letters_go (w0 := some (.cl (.tup (c.map ltT)))) (w1 := some (.cl (.tup (rows.map bT)))) (c.zip rows) none none none none none
    have E := sfor_ok (mi := mZip (mCons (mVar 0) (mCons (mVar 1) mNil))) (cs := []) (by simp only [↓bindM, ev, ef, el, zipTs_map]) e
    rw [← S1_are_beats] at E
    have ok : okBs c rows = (c.zip rows).all fun p => okB p.1 p.2 := by unfold okBs; rw [decide_eq_true hr, Bool.true_and]
    rw [ok]
    refine run_cl (ρ := [some (.cl _), some (.cl _), none, none, none, none, none]) (cs := []) rfl ?_
    cases h : (c.zip rows).all fun p => okB p.1 p.2 with
    | true =>
      obtain ⟨p2, p3, p4, p5, p6, rfl⟩ := f1 h
      simp only [m_are_beats, ↓bindM, ev, ef, ↓reduceIte, el, List.length_map, d, E]
    | false =>
      have := f2 h
      subst this
      simp only [m_are_beats, ↓bindM, ev, ef, ↓reduceIte, el, List.length_map, d, E]
  · have d : (!decide ((rows.length : Int) = (c.length : Int))) = true := by rw [decide_eq_false (by omega)]; rfl
    have ok : okBs c rows = false := by unfold okBs; rw [decide_eq_false hr, Bool.false_and]
    rw [ok]
    refine run_cl (ρ := [some (.cl _), some (.cl _), none, none, none, none, none]) (cs := []) rfl ?_
    simp only [m_are_beats, ↓bindM, ev, ef, ↓reduceIte, el, List.length_map, d]
/-! never_rests -/
theorem blsT_map (bs : List Bool) : blsT (bs.map T.bl) = some bs := by
  induction bs with
  | nil => rfl
  | cons b bs ih => simp only [List.map_cons, blsT, ih, Option.map_some]
theorem f_all (bs : List Bool) (cs : Cs) : fAll [W.cl (.lst (bs.map T.bl))] cs = .ok (W.cl (.bl (bs.all id))) cs := by
  have : blsW cs (W.cl (.lst (bs.map T.bl))) = some bs := by simp only [blsW, peek_cl, blsT_map]
  simp only [fAll, this]
theorem in_rides {ks : List Rk} {ts : List T} (hl : ts.length = ks.length) (x : Rk) (cs : Cs) : fInN false (.cl (rkT x)) (.cl (.dN (ks.map nkR) ts)) cs = .ok (.cl (.bl (decide (x ∈ ks)))) cs := by
  have e : (look (ks.map nkR) (ts.map W.cl) (nkR x)).isSome = decide (x ∈ ks) := by
    rw [Bool.eq_iff_iff, look_mem (by simp [hl]), decide_eq_true_eq, List.mem_map]
    exact ⟨fun ⟨y, hy, q⟩ => by rw [← nkR_inj _ _ q]; exact hy, fun h => ⟨x, h, rfl⟩⟩
  simp only [en, keyR, nkR_depth, if_true, Bool.false_eq_true, if_false, e]
theorem rng_range (a b : Int) : rangeT a (b - a).toNat = (rng a b).map T.int := by
  unfold rangeT rng; rw [List.map_map]; rfl
def Bnd (x : Int) : Prop := -1000000000 ≤ x ∧ x ≤ 1000000000
theorem rests_go {w0 w1 w3 w4 : Option W} {ks : List Rk} {ts : List T} (hl : ts.length = ks.length) : ∀ (xs : List Rk) (c : Int) (o6 o7 o8 : Option W), Bnd (c - 1) → (∀ x ∈ xs, Bnd x.2) → ∃ f, forGo (mgTup 2 (mgCons (mgName 6) (mgCons (mgName 7) mgNil))) L1_never_rests (xs.map rkT) [w0, w1, some (.cl (.dN (ks.map nkR) ts)), w3, w4, some (.cl (.int c)), o6, o7, o8] [] = .ok f [] ∧
    (restB 60 (fun x => decide (x ∈ ks)) c xs = true → ∃ p5 p6 p7 p8, f = .nx [w0, w1, some (.cl (.dN (ks.map nkR) ts)), w3, w4, p5, p6, p7, p8]) ∧ (restB 60 (fun x => decide (x ∈ ks)) c xs = false → f = .rt (.cl (.bl false)))
  | [], c, _, _, _, _, _ => ⟨_, rfl, fun _ => ⟨_, _, _, _, rfl⟩, fun h => by simp [restB] at h⟩
  | (L, b) :: xs, c, o6, o7, o8, hc, hx => by
    rw [List.map_cons, forGo_cons]
    have hb := hx (L, b) (List.mem_cons_self)
    unfold Bnd at hb hc
    dsimp only at hb
    have i1 : restB 60 (fun x => decide (x ∈ ks)) c ((L, b) :: xs) = (decide (b - c ≤ 60) && (rng c b).all (fun t => decide ((L, t) ∈ ks)) && restB 60 (fun x => decide (x ∈ ks)) (b + 1) xs) := rfl
    by_cases h : b - c ≤ 60
    · have d : decide ((60 : Int) < b - c) = false := decide_eq_false (by omega)
      have r1 := rgi (j := c) (by omega)
      have r2 := rgi (j := b) (by omega)
      have eC : C1_never_rests [w0, w1, some (.cl (.dN (ks.map nkR) ts)), w3, w4, some (.cl (.int c)), some (.cl (pT L)), some (.cl (.int b)), o8] [] = .ok (.cl (.lst (((rng c b).map fun t => decide ((L, t) ∈ ks)).map T.bl))) [] := by
        unfold C1_never_rests
        refine mlc_all T.int T.bl _ (rng c b) (by simp only [↓bindM, ev, ef, ↓reduceIte, el, r1, r2, rng_range]) (lLim (by rw [rng_len]; omega)) fun t ht => ⟨_, rfl, ?_⟩
        have := in_rides hl (L, t) []
        simp only [rkT] at this
        simp only [E1_never_rests, ↓bindM, ev, ef, ↓reduceIte, el, lim2, this]
      have al : (((rng c b).map fun t => decide ((L, t) ∈ ks)).all id) = (rng c b).all (fun t => decide ((L, t) ∈ ks)) := by rw [List.all_map]; rfl
      rw [i1, decide_eq_true h, Bool.true_and]
      cases ha : (rng c b).all (fun t => decide ((L, t) ∈ ks)) with
      | true =>
        rw [ha] at al
        obtain ⟨f, e, f1, f2⟩ := rests_go (w0 := w0) (w1 := w1) (w3 := w3) (w4 := w4) hl xs (b + 1) (some (.cl (pT L))) (some (.cl (.int b))) o8 (by unfold Bnd; omega) fun x hx' => hx x (List.mem_cons_of_mem _ hx')
        have s1 : stepF (mgTup 2 (mgCons (mgName 6) (mgCons (mgName 7) mgNil))) L1_never_rests (rkT (L, b)) [w0, w1, some (.cl (.dN (ks.map nkR) ts)), w3, w4, some (.cl (.int c)), o6, o7, o8] [] = .ok (.nx [w0, w1, some (.cl (.dN (ks.map nkR) ts)), w3, w4, some (.cl (.int (b + 1))), some (.cl (pT L)), some (.cl (.int b)), o8]) [] := by
          simp only [stepF, L1_never_rests, rkT, ↓bindM, ev, ef, ↓reduceIte, el, d, eC, f_all, al]
        rw [s1, Bool.true_and]
        exact ⟨f, e, f1, f2⟩
      | false =>
        rw [ha] at al
        have s1 : stepF (mgTup 2 (mgCons (mgName 6) (mgCons (mgName 7) mgNil))) L1_never_rests (rkT (L, b)) [w0, w1, some (.cl (.dN (ks.map nkR) ts)), w3, w4, some (.cl (.int c)), o6, o7, o8] [] = .ok (.rt (.cl (.bl false))) [] := by
          simp only [stepF, L1_never_rests, rkT, ↓bindM, ev, ef, ↓reduceIte, el, d, eC, f_all, al]
        rw [s1, Bool.false_and]
        exact ⟨_, rfl, fun q => Bool.noConfusion q, fun _ => rfl⟩
    · have d : decide ((60 : Int) < b - c) = true := decide_eq_true (by omega)
      have s1 : stepF (mgTup 2 (mgCons (mgName 6) (mgCons (mgName 7) mgNil))) L1_never_rests (rkT (L, b)) [w0, w1, some (.cl (.dN (ks.map nkR) ts)), w3, w4, some (.cl (.int c)), o6, o7, o8] [] = .ok (.rt (.cl (.bl false))) [] := by
        simp only [stepF, L1_never_rests, rkT, ↓bindM, ev, ef, ↓reduceIte, el, d]
      rw [s1, i1, decide_eq_false h, Bool.false_and, Bool.false_and]
      exact ⟨_, rfl, fun q => Bool.noConfusion q, fun _ => rfl⟩
theorem p_never_rests {l : Ltr} {b : List Int} {ks : List Rk} {ts : List T} (hl : ts.length = ks.length) (h30 : l.2.length ≤ 30) (hs : l.1 ≤ 100000) (hb : ∀ x ∈ b, Bnd x) :
    g_never_rests [ltT l, bT b, .dN (ks.map nkR) ts] = some (.bl (restB 60 (fun x => decide (x ∈ ks)) l.1 ((lanesOf l.2).zip b))) := by
  obtain ⟨f, e, f1, f2⟩ := rests_go (w0 := some (.cl (ltT l))) (w1 := some (.cl (bT b))) (w3 := some (.cl (.int l.1))) (w4 := some (.cl (.tup (l.2.map T.int)))) hl ((lanesOf l.2).zip b) l.1 none none none (by unfold Bnd; omega) fun x hx => hb _ (List.of_mem_zip hx).2
  have pL := p_lanes l.2 (by omega)
  have E := sfor_ok (mi := mZip (mCons (mCallD g_route_lanes (mCons (mVar 4) mNil)) (mCons (mVar 1) mNil))) (cs := []) (by simp only [bT, ↓bindM, ev, ef, ↓reduceIte, el, pL, isSc, zipTs_rides]) e
  rw [← S1_never_rests] at E
  simp only [ltT] at E
  refine run_cl (ρ := [some (.cl _), some (.cl _), some (.cl _), none, none, none, none, none, none]) (cs := []) rfl ?_
  cases h : restB 60 (fun x => decide (x ∈ ks)) l.1 ((lanesOf l.2).zip b) with
  | true =>
    obtain ⟨p5, p6, p7, p8, rfl⟩ := f1 h
    simp only [m_never_rests, ltT, ↓bindM, ev, ef, ↓reduceIte, el, E]
  | false =>
    have := f2 h
    subst this
    simp only [m_never_rests, ltT, ↓bindM, ev, ef, ↓reduceIte, el, E]
/-! is_run -/
theorem allR_len {c : List Ltr} {rows : List (List Int)} (hl : ∀ l ∈ c, l.2.length ≤ 30) : (allR c rows).length ≤ 30 * c.length := by
  have zl : ∀ k, (zipR c rows k).length ≤ 30 := fun k => by
    unfold zipR
    rw [List.length_zip, lanesOf_len]
    by_cases hk : k < c.length
    · rw [(at_k hk).2]; have := hl _ (List.getElem_mem hk); omega
    · have : rt c k = [] := by unfold rt; rw [List.getElem?_eq_none (by omega)]; rfl
      rw [this]; simp
  have pl : ∀ n : Nat, ((List.range n).flatMap fun k => (zipR c rows k).map fun x => (x, k)).length ≤ 30 * n := fun n => by
    induction n with
    | zero => simp
    | succ n ih =>
      rw [List.range_succ, List.flatMap_append, List.length_append]
      simp only [List.flatMap_cons, List.flatMap_nil, List.append_nil, List.length_map]
      have := zl n; omega
  exact pl c.length
theorem p_is_run {tc tb : T} {c : List Ltr} {rows : List (List Int)} (h1 : g_frozen [tc] = some (.tup (c.map ltT))) (h2 : g_frozen [tb] = some (.tup (rows.map bT))) (h60 : c.length ≤ 60) (hl : ∀ l ∈ c, l.2.length ≤ 30 ∧ l.1 ≤ 100000) (hb : ∀ r ∈ rows, ∀ x ∈ r, Bnd x)
    (hn : ∀ k, k < c.length → (lanesOf (rt c k)).Nodup) : ∃ v, g_is_run [tc, tb] = some (.bl v) ∧ (v = true ↔ okBs c rows = true ∧ Uniq c rows ∧ NoRest c rows) := by
  have ok := p_are_beats c rows
  cases hok : okBs c rows with
  | false =>
    rw [hok] at ok
    refine ⟨false, run_cl (ρ := [some (.cl _), some (.cl _), none, none, none, none]) (cs := []) rfl ?_, by simp⟩
    simp only [m_is_run, ↓bindM, ev, ef, ↓reduceIte, el, h1, h2, isSc, ok]
  | true =>
    rw [hok] at ok
    obtain ⟨hr, hok2⟩ := okBs_iff.mp hok
    obtain ⟨ks, nd, hks, ec⟩ := p_carriers hr h60 fun l h => (hl l h).1
    have tl : (ks.map fun x => T.lst ((rowOf (allR c rows) x).map natT)).length = ks.length := by simp
    have kl : ks.length ≤ 30 * c.length := by
      have h1 := nd.length_le_of_subset (l₂ := (allR c rows).map (·.1)) fun x hx => by
        obtain ⟨p, hp, e⟩ := (hks x).mp hx
        exact List.mem_map.mpr ⟨p, hp, e⟩
      rw [List.length_map] at h1
      have h2 := allR_len (c := c) (rows := rows) fun l h => (hl l h).1
      omega
    let F1 : Rk → Bool := fun x => decide (((rowOf (allR c rows) x).length : Int) = 1)
    have eC1 : ∀ w4 w5, C1_is_run [some (.cl (.tup (c.map ltT))), some (.cl (.tup (rows.map bT))), some (.cl (.dN (ks.map nkR) (ks.map fun x => .lst ((rowOf (allR c rows) x).map natT)))), none, w4, w5] [] = .ok (.cl (.lst ((ks.map F1).map T.bl))) [] := fun w4 w5 => by
      unfold C1_is_run
      refine mlc_all (fun x => .lst ((rowOf (allR c rows) x).map natT)) T.bl F1 ks (by simp only [↓bindM, ev, el, en, frz_cl]) (lLim (by omega)) fun x hx => ⟨_, rfl, ?_⟩
      simp only [E1_is_run, ↓bindM, ev, ef, ↓reduceIte, el, List.length_map, F1]
    have f1 := f_all (ks.map F1) []
    rw [List.all_map] at f1
    let F2 : Ltr × List Int → Bool := fun p => restB 60 (fun x => decide (x ∈ ks)) p.1.1 ((lanesOf p.1.2).zip p.2)
    have eC2 : C2_is_run [some (.cl (.tup (c.map ltT))), some (.cl (.tup (rows.map bT))), some (.cl (.dN (ks.map nkR) (ks.map fun x => .lst ((rowOf (allR c rows) x).map natT)))), none, none, none] [] = .ok (.cl (.lst (((c.zip rows).map F2).map T.bl))) [] := by
      unfold C2_is_run
      refine mlc_all (fun p : Ltr × List Int => .tup [ltT p.1, bT p.2]) T.bl F2 (c.zip rows) (by simp only [↓bindM, ev, ef, el, zipTs_map]) (lLim (by rw [List.length_zip]; omega)) fun p hp => ⟨_, rfl, ?_⟩
      have m1 := (List.of_mem_zip (a := p.1) (b := p.2) hp)
      have := p_never_rests (l := p.1) (b := p.2) tl (hl _ m1.1).1 (hl _ m1.1).2 (hb _ m1.2)
      simp only [E2_is_run, ↓bindM, ev, ef, ↓reduceIte, el, this, F2]
    have f2 := f_all ((c.zip rows).map F2) []
    rw [List.all_map] at f2
    have u1 : ks.all (id ∘ F1) = true ↔ Uniq c rows := by
      rw [uniq_iff, List.all_eq_true]
      constructor
      · intro h x hx
        have := h x ((hks x).mpr hx)
        simp only [Function.comp, id, F1, decide_eq_true_eq] at this
        omega
      · intro h x hx
        have := h x ((hks x).mp hx)
        simp only [Function.comp, id, F1, decide_eq_true_eq]
        omega
    have u2 : (c.zip rows).all (id ∘ F2) = true ↔ NoRest c rows := by
      rw [← rest_iff (m := 60) hok hn (by omega) (K := fun x => decide (x ∈ ks)) (fun x => by rw [decide_eq_true_eq, hks, mem_allR])]
      rw [List.all_eq_true]
      constructor
      · intro h k hk
        have := h _ (List.mem_of_getElem? (zip_at hr hk))
        simp only [Function.comp, id, F2] at this
        unfold zipR
        rw [(at_k hk).1, (at_k hk).2]; exact this
      · intro h p hp
        obtain ⟨k, hk, e⟩ := List.mem_iff_getElem.mp hp
        have hk2 : k < c.length := by rw [List.length_zip] at hk; omega
        have e2 := zip_at hr hk2
        rw [List.getElem?_eq_getElem hk, e] at e2
        cases e2
        have := h k hk2
        unfold zipR at this
        rw [(at_k hk2).1, (at_k hk2).2] at this
        exact this
    cases hu : ks.all (id ∘ F1) with
    | false =>
      rw [hu] at f1 u1
      refine ⟨false, run_cl (ρ := [some (.cl _), some (.cl _), none, none, none, none]) (cs := []) rfl ?_, ?_⟩
      · simp only [m_is_run, ↓bindM, ev, ef, ↓reduceIte, el, h1, h2, isSc, ok, ec, eC1, f1]
      · rw [← u1]; simp
    | true =>
      rw [hu] at f1 u1
      refine ⟨_, run_cl (ρ := [some (.cl _), some (.cl _), none, none, none, none]) (cs := []) rfl ?_ (t := .bl ((c.zip rows).all (id ∘ F2))), ?_⟩
      · simp only [m_is_run, ↓bindM, ev, ef, ↓reduceIte, el, h1, h2, isSc, ok, ec, eC1, f1, eC2, f2]
      · rw [u2, ← u1]; simp
end My

namespace My
open PySem L2 G
/-- a crowd as it is handed in -/
structure CrT (wc : T) (c : List Ltr) (ct ro : Nat → T) : Prop where
  len : ∀ cs, fLen [W.cl wc] cs = .ok (.cl (.int (c.length : Nat))) cs
  at_ : ∀ k, k < c.length → ∀ cs, fIx (.cl wc) (.cl (.int (k : Nat))) cs = .ok (.cl (ct k)) cs
  st : ∀ k, k < c.length → ∀ cs, fIx (.cl (ct k)) (.cl (.int 0)) cs = .ok (.cl (.int (stD c k : Nat))) cs
  rt_ : ∀ k, k < c.length → ∀ cs, fIx (.cl (ct k)) (.cl (.int 1)) cs = .ok (.cl (ro k)) cs
  rs : ∀ k, k < c.length → SqW (ro k) ((rt c k).map T.int)
structure RwT (wb : T) (rows : List (List Int)) (bt : Nat → T) : Prop where
  len : ∀ cs, fLen [W.cl wb] cs = .ok (.cl (.int (rows.length : Nat))) cs
  at_ : ∀ k, k < rows.length → ∀ cs, fIx (.cl wb) (.cl (.int (k : Nat))) cs = .ok (.cl (bt k)) cs
  rs : ∀ k, k < rows.length → SqW (bt k) ((rD rows k).map T.int)
/-- a ride as a flat key -/
def nkF (x : Rk) : NestedKey := .tup [.num x.1.1, .num x.1.2, .num x.2]
theorem nkF_inj : ∀ a b, nkF a = nkF b → a = b := fun ⟨⟨a, b⟩, c⟩ ⟨⟨d, e⟩, f⟩ h => by simp [nkF] at h; simp [h]
theorem nkF_depth (x : Rk) : (nkF x).depth ≤ 8 := by simp [nkF, NestedKey.depth, NestedKey.depthAll]
theorem keyF (a b t : Int) : keyWN (.cl (.tup [.int a, .int b, .int t])) = some (nkF ((a, b), t)) := by
  simp only [keyWN, keyNs, keyN, Option.map_some, nkF]
theorem mgsn (a b : ME) (w : W) (ρ : G.Loc) (cs : Cs) : mgSubN a b w ρ cs = (a ρ cs).bind fun o cs1 => (b ρ cs1).bind fun i cs2 => fSetN o i w cs2 (R.ok ρ cs2) := rfl
theorem lim3 : ((0 + 1 + 1 + 1 : Nat) ≤ LIM) = True := by unfold LIM; decide
theorem in_flat {Ks : List Rk} {vs : List W} (hl : vs.length = Ks.length) (neg : Bool) (a b t : Int) (w : W) (cs : Cs) (hw : ndW cs w = some (Ks.map nkF, vs)) :
    fInN neg (.cl (.tup [.int a, .int b, .int t])) w cs = .ok (.cl (.bl (if neg = true then !decide (((a, b), t) ∈ Ks) else decide (((a, b), t) ∈ Ks)))) cs := by
  have e : (look (Ks.map nkF) vs (nkF ((a, b), t))).isSome = decide (((a, b), t) ∈ Ks) := by
    rw [Bool.eq_iff_iff, look_mem (by simp [hl]), decide_eq_true_eq, List.mem_map]
    exact ⟨fun ⟨y, hy, q⟩ => by rw [← nkF_inj _ _ q]; exact hy, fun h => ⟨_, h, rfl⟩⟩
  unfold fInN
  rw [hw, keyF]
  simp only [nkF_depth, if_true, e]
section
variable {c : List Ltr} {rows : List (List Int)}
/-- ahead of the ride j of the letter k -/
def Bef (k j k' j' : Nat) : Prop := k' < k ∨ (k' = k ∧ j' < j)
def MemK (c : List Ltr) (rows : List (List Int)) (k j : Nat) (Ks : List Rk) : Prop := ∀ x, x ∈ Ks ↔ ∃ k' j', Bef k j k' j' ∧ rideAt c rows k' j' = some x
def UniqTo (c : List Ltr) (rows : List (List Int)) (k j : Nat) : Prop := ∀ k1 j1 k2 j2 x, Bef k j k1 j1 → Bef k j k2 j2 → rideAt c rows k1 j1 = some x → rideAt c rows k2 j2 = some x → k1 = k2 ∧ j1 = j2
def GoodR2 (c : List Ltr) (rows : List (List Int)) : Prop := okBs c rows = true ∧ Uniq c rows
theorem bef_succ {k j k' j' : Nat} : Bef k (j + 1) k' j' ↔ Bef k j k' j' ∨ (k' = k ∧ j' = j) := by unfold Bef; omega
/-- the state while rides are gathered -/
structure Gat (c : List Ltr) (rows : List (List Int)) (k j : Nat) (Ks : List Rk) (vs : List W) : Prop where
  mem : MemK c rows k j Ks
  un : UniqTo c rows k j
  vl : vs.length = Ks.length
  ok : ∀ k', k' < k → ((rD rows k').length : Int) = ((rt c k').length : Int) - 1 ∧ inc (stD c k') (rD rows k') = true
  len : Ks.length ≤ 30 * k + j
theorem gat_inner {wc wb : T} {ct ro bt : Nat → T} (hC : CrT wc c ct ro) (hR : RwT wb rows bt) (hr : rows.length = c.length) {k : Nat} (hk : k < c.length) (h60 : c.length ≤ 60) (h30 : (rt c k).length ≤ 30) (hlen : ((rD rows k).length : Int) = ((rt c k).length : Int) - 1)
    {Ks : List Rk} {vs : List W} (h : Gat c rows k 0 Ks vs) {o6 o7 o8 o9 : Option W} :
    ∃ f cs', S2_law_is_run [some (.cl wc), some (.cl wb), some (.pt 0), some (.cl (.int (k : Nat))), some (.cl (ro k)), some (.cl (.int (stD c k : Nat))), o6, o7, o8, o9] [.dN (Ks.map nkF) vs] = .ok f cs' ∧
      ((∃ Ks' vs' o5 o6 o7 o8, f = .nx [some (.cl wc), some (.cl wb), some (.pt 0), some (.cl (.int (k : Nat))), some (.cl (ro k)), o5, o6, o7, o8, o9] ∧ cs' = [.dN (Ks'.map nkF) vs'] ∧ Gat c rows (k + 1) 0 Ks' vs') ∨ (f = .rt (.cl (.bl false)) ∧ ¬ GoodR2 c rows)) := by
  obtain ⟨f, cs', e, hf⟩ := for_rngP (mg := mgName 6) (mb := L2_law_is_run) (n := (rt c k).length - 1)
    (fun j ρ cs => ∃ Ks vs o6 o7 o8, cs = [.dN (Ks.map nkF) vs] ∧ ρ = [some (.cl wc), some (.cl wb), some (.pt 0), some (.cl (.int (k : Nat))), some (.cl (ro k)), some (.cl (.int (lastOr (stD c k) ((rD rows k).take j)))), o6, o7, o8, o9] ∧ Gat c rows k j Ks vs ∧ inc (stD c k) ((rD rows k).take j) = true)
    (fun f cs' => (∃ Ks' vs' o5 o6 o7 o8, f = .nx [some (.cl wc), some (.cl wb), some (.pt 0), some (.cl (.int (k : Nat))), some (.cl (ro k)), o5, o6, o7, o8, o9] ∧ cs' = [.dN (Ks'.map nkF) vs'] ∧ Gat c rows (k + 1) 0 Ks' vs') ∨ (f = .rt (.cl (.bl false)) ∧ ¬ GoodR2 c rows))
    (fun j ρ cs hj ⟨Ks, vs, o6, o7, o8, h1, h2, hG, hi⟩ => by
      subst h1 h2
      have hb : (rD rows k)[j]? = some ((rD rows k)[j]?.getD 0) := by rw [List.getElem?_eq_getElem (by omega)]; rfl
      generalize (rD rows k)[j]?.getD 0 = t at hb
      have hb1 := ints_get hb
      have g0 : (rt c k)[j]? = some ((rt c k)[j]?.getD 0) := by rw [List.getElem?_eq_getElem (by omega)]; rfl
      have g1 : (rt c k)[j + 1]? = some ((rt c k)[j + 1]?.getD 0) := by rw [List.getElem?_eq_getElem (by omega)]; rfl
      have hL : (lanesOf (rt c k))[j]? = some ((rt c k)[j]?.getD 0, (rt c k)[j + 1]?.getD 0) := lanes_get (by omega)
      have hR' : rideAt c rows k j = some (((rt c k)[j]?.getD 0, (rt c k)[j + 1]?.getD 0), t) := ride_of hL hb
      generalize (rt c k)[j]?.getD 0 = a at g0 hL hR'
      generalize (rt c k)[j + 1]?.getD 0 = b at g1 hL hR'
      have i0 := ints_get g0
      have i1 := ints_get g1
      have c1 : ((j : Nat) : Int) + 1 = ((j + 1 : Nat) : Int) := by omega
      have xb := hR.at_ k (by omega)
      have sb := (hR.rs k (by omega)).ix
      have sr := (hC.rs k hk).ix
      have nd0 : ndW [Cell.dN (Ks.map nkF) vs] (.pt 0) = some (Ks.map nkF, vs) := rfl
      have inn := in_flat hG.vl false a b t (.pt 0) [Cell.dN (Ks.map nkF) vs] nd0
      have tk : (rD rows k).take (j + 1) = (rD rows k).take j ++ [t] := by rw [List.take_add_one, hb]; rfl
      by_cases hlt : t < lastOr (stD c k) ((rD rows k).take j)
      · refine .inr (.inl ⟨.cl (.bl false), [.dN (Ks.map nkF) vs], ?_, .inr ⟨rfl, fun hg => ?_⟩⟩)
        · have d : decide (t < lastOr (stD c k) ((rD rows k).take j)) = true := decide_eq_true hlt
          simp only [stepF, L2_law_is_run, ↓bindM, ev, ef, ↓reduceIte, el, xb, sb, sr, gx_nat, hb1, i0, c1, i1, lim3, d]
        · have := inc_last ((okBs_iff.mp hg.1).2 k hk).2 hb
          omega
      · have d : decide (t < lastOr (stD c k) ((rD rows k).take j)) = false := decide_eq_false hlt
        by_cases hin : ((a, b), t) ∈ Ks
        · refine .inr (.inl ⟨.cl (.bl false), [.dN (Ks.map nkF) vs], ?_, .inr ⟨rfl, fun hg => ?_⟩⟩)
          · rw [decide_eq_true hin, if_neg Bool.false_ne_true] at inn
            simp only [stepF, L2_law_is_run, ↓bindM, ev, ef, ↓reduceIte, el, xb, sb, sr, gx_nat, hb1, i0, c1, i1, lim3, d, inn]
          · obtain ⟨k', j', hbf, hr'⟩ := (hG.mem _).mp hin
            have hk' : k' < c.length := by unfold Bef at hbf; omega
            have := hg.2 k j k' j' _ hk hk' hR' hr'
            unfold Bef at hbf; omega
        · rw [decide_eq_false hin, if_neg Bool.false_ne_true] at inn
          have hin2 : nkF ((a, b), t) ∉ Ks.map nkF := fun q => by
            obtain ⟨y, hy, q⟩ := List.mem_map.mp q
            rw [nkF_inj _ _ q] at hy; exact hin hy
          have lim : (Ks.map nkF).length < LIM := by rw [List.length_map]; have := hG.len; unfold LIM; omega
          have sn := fun ρ => setN_at (v := W.cl (.int (k : Nat))) (ρ := ρ) (c := [Cell.dN (Ks.map nkF) vs]) (cs := [Cell.dN (Ks.map nkF) vs]) (d := 0) rfl (keyF a b t) lim (nkF_depth _)
          simp only [hin2, if_false] at sn
          refine .inl ⟨_, _, ?_, Ks ++ [((a, b), t)], vs ++ [W.cl (.int (k : Nat))], some (.cl (.int j)), some (.cl (.int t)), some (.cl (.tup [.int a, .int b, .int t])), rfl, rfl, ⟨fun x => ?_, fun k1 j1 k2 j2 x b1 b2 e1 e2 => ?_, by simp [hG.vl], hG.ok, by have := hG.len; simp; omega⟩, ?_⟩
          · simp only [stepF, L2_law_is_run, ↓bindM, ev, ef, ↓reduceIte, el, mgsn, xb, sb, sr, gx_nat, hb1, i0, c1, i1, lim3, d, inn, sn, tk, lastOr_snoc, List.map_append, List.map_cons, List.map_nil]
          · rw [List.mem_append, hG.mem x]
            constructor
            · rintro (⟨k', j', h1, h2⟩ | hx)
              · exact ⟨k', j', bef_succ.mpr (.inl h1), h2⟩
              · have : x = ((a, b), t) := by simpa using hx
                subst this
                exact ⟨k, j, bef_succ.mpr (.inr ⟨rfl, rfl⟩), hR'⟩
            · rintro ⟨k', j', h1, h2⟩
              rcases bef_succ.mp h1 with h1 | ⟨rfl, rfl⟩
              · exact .inl ⟨k', j', h1, h2⟩
              · rw [hR'] at h2; cases h2; exact .inr (List.mem_singleton.mpr rfl)
          · rcases bef_succ.mp b1 with b1 | ⟨rfl, rfl⟩
            · rcases bef_succ.mp b2 with b2 | ⟨rfl, rfl⟩
              · exact hG.un k1 j1 k2 j2 x b1 b2 e1 e2
              · rw [hR'] at e2; cases e2; exact absurd ((hG.mem _).mpr ⟨k1, j1, b1, e1⟩) hin
            · rcases bef_succ.mp b2 with b2 | ⟨rfl, rfl⟩
              · rw [hR'] at e1; cases e1; exact absurd ((hG.mem _).mpr ⟨k2, j2, b2, e2⟩) hin
              · exact ⟨rfl, rfl⟩
          · rw [tk, inc_snoc, hi]; simp; omega)
    (fun ρ cs ⟨Ks, vs, o6, o7, o8, h1, h2, hG, hi⟩ => by
      subst h1 h2
      have fl : (rD rows k).take ((rt c k).length - 1) = rD rows k := List.take_of_length_le (by omega)
      rw [fl] at hi
      have none : ∀ j x, rideAt c rows k j = some x → j < (rt c k).length - 1 := fun j x e => by
        have := (List.getElem?_eq_some_iff.mp (ride_get (L := x.1) (t := x.2) e).2).1
        omega
      have bb : ∀ k' j' x, rideAt c rows k' j' = some x → (Bef (k + 1) 0 k' j' ↔ Bef k ((rt c k).length - 1) k' j') := fun k' j' x e => by
        unfold Bef
        constructor
        · intro q
          by_cases hk' : k' = k
          · subst hk'; have := none j' x e; omega
          · omega
        · omega
      refine .inl ⟨Ks, vs, _, _, _, _, rfl, rfl, ⟨fun x => ?_, fun k1 j1 k2 j2 x b1 b2 e1 e2 => hG.un k1 j1 k2 j2 x ((bb _ _ _ e1).mp b1) ((bb _ _ _ e2).mp b2) e1 e2, hG.vl, fun k' hk' => ?_, by have := hG.len; omega⟩⟩
      · rw [hG.mem x]
        constructor
        · rintro ⟨k', j', h1, h2⟩; exact ⟨k', j', (bb _ _ _ h2).mpr h1, h2⟩
        · rintro ⟨k', j', h1, h2⟩; exact ⟨k', j', (bb _ _ _ h2).mp h1, h2⟩
      · by_cases q : k' = k
        · subst q; exact ⟨hlen, hi⟩
        · exact hG.ok k' (by omega))
    (ρ := [some (.cl wc), some (.cl wb), some (.pt 0), some (.cl (.int (k : Nat))), some (.cl (ro k)), some (.cl (.int (stD c k : Nat))), o6, o7, o8, o9]) (cs := [.dN (Ks.map nkF) vs]) ⟨Ks, vs, o6, o7, o8, rfl, rfl, h, rfl⟩
  refine ⟨f, cs', ?_, hf⟩
  unfold S2_law_is_run
  have sl := (hC.rs k hk).len
  have ri := rgi (j := ((rt c k).length : Int) - 1) (by omega)
  have tn : (((rt c k).length : Int) - 1).toNat = (rt c k).length - 1 := by omega
  exact sfor_ok (by simp only [↓bindM, ev, ef, ↓reduceIte, el, sl, List.length_map, ri, tn]) e
/-- the first loop -/
theorem gat_all {wc wb : T} {ct ro bt : Nat → T} (hC : CrT wc c ct ro) (hR : RwT wb rows bt) (hr : rows.length = c.length) (h60 : c.length ≤ 60) (h30 : ∀ k, k < c.length → (rt c k).length ≤ 30) :
    ∃ f cs', S1_law_is_run [some (.cl wc), some (.cl wb), some (.pt 0), none, none, none, none, none, none, none] [.dN [] []] = .ok f cs' ∧
      ((∃ Ks vs o3 o4 o5 o6 o7 o8, f = .nx [some (.cl wc), some (.cl wb), some (.pt 0), o3, o4, o5, o6, o7, o8, none] ∧ cs' = [.dN (Ks.map nkF) vs] ∧ Gat c rows c.length 0 Ks vs) ∨ (f = .rt (.cl (.bl false)) ∧ ¬ GoodR2 c rows)) := by
  obtain ⟨f, cs', e, hf⟩ := for_rngP (mg := mgName 3) (mb := L1_law_is_run) (n := c.length)
    (fun k ρ cs => ∃ Ks vs o3 o4 o5 o6 o7 o8, cs = [.dN (Ks.map nkF) vs] ∧ ρ = [some (.cl wc), some (.cl wb), some (.pt 0), o3, o4, o5, o6, o7, o8, none] ∧ Gat c rows k 0 Ks vs)
    (fun f cs' => (∃ Ks vs o3 o4 o5 o6 o7 o8, f = .nx [some (.cl wc), some (.cl wb), some (.pt 0), o3, o4, o5, o6, o7, o8, none] ∧ cs' = [.dN (Ks.map nkF) vs] ∧ Gat c rows c.length 0 Ks vs) ∨ (f = .rt (.cl (.bl false)) ∧ ¬ GoodR2 c rows))
    (fun k ρ cs hk ⟨Ks, vs, o3, o4, o5, o6, o7, o8, h1, h2, hG⟩ => by
      subst h1 h2
      have xc := hC.at_ k hk
      have xr := hC.rt_ k hk
      have xs := hC.st k hk
      have xb := hR.at_ k (by omega)
      have lb := (hR.rs k (by omega)).len
      have lr := (hC.rs k hk).len
      by_cases hl : ((rD rows k).length : Int) = ((rt c k).length : Int) - 1
      · have d : (!decide (((rD rows k).length : Int) = ((rt c k).length : Int) - 1)) = false := by rw [decide_eq_true hl]; rfl
        obtain ⟨f, cs', e, hf⟩ := gat_inner hC hR hr hk h60 (h30 k hk) hl hG (o6 := o6) (o7 := o7) (o8 := o8) (o9 := none)
        rcases hf with ⟨Ks', vs', p5, p6, p7, p8, rfl, rfl, hG'⟩ | ⟨rfl, hb⟩
        · refine .inl ⟨[some (.cl wc), some (.cl wb), some (.pt 0), some (.cl (.int (k : Nat))), some (.cl (ro k)), p5, p6, p7, p8, none], [.dN (Ks'.map nkF) vs'], ?_, Ks', vs', some (.cl (.int (k : Nat))), some (.cl (ro k)), p5, p6, p7, p8, rfl, rfl, hG'⟩
          simp only [stepF, L1_law_is_run, ↓bindM, ev, ef, ↓reduceIte, el, xc, xr, xb, lb, lr, List.length_map, d, xs, e]
        · refine .inr (.inl ⟨.cl (.bl false), cs', ?_, .inr ⟨rfl, hb⟩⟩)
          simp only [stepF, L1_law_is_run, ↓bindM, ev, ef, ↓reduceIte, el, xc, xr, xb, lb, lr, List.length_map, d, xs, e]
      · have d : (!decide (((rD rows k).length : Int) = ((rt c k).length : Int) - 1)) = true := by rw [decide_eq_false hl]; rfl
        refine .inr (.inl ⟨.cl (.bl false), [.dN (Ks.map nkF) vs], ?_, .inr ⟨rfl, fun hg => hl ((okBs_iff.mp hg.1).2 k hk).1⟩⟩)
        simp only [stepF, L1_law_is_run, ↓bindM, ev, ef, ↓reduceIte, el, xc, xr, xb, lb, lr, List.length_map, d])
    (fun ρ cs ⟨Ks, vs, o3, o4, o5, o6, o7, o8, h1, h2, hG⟩ => .inl ⟨Ks, vs, o3, o4, o5, o6, o7, o8, by rw [h2], h1, hG⟩)
    (ρ := [some (.cl wc), some (.cl wb), some (.pt 0), none, none, none, none, none, none, none]) (cs := [.dN [] []])
    ⟨[], [], none, none, none, none, none, none, rfl, rfl, ⟨fun x => ⟨fun h => (nomatch h), fun ⟨k', j', h1, _⟩ => by unfold Bef at h1; omega⟩, fun k1 j1 k2 j2 x b1 => by (unfold Bef at b1; omega), rfl, fun k' hk' => by omega, Nat.le_refl _⟩⟩
  refine ⟨f, cs', ?_, hf⟩
  unfold S1_law_is_run
  have ri := rgi (j := (c.length : Int)) (by omega)
  exact sfor_ok (by simp only [↓bindM, ev, ef, ↓reduceIte, el, hC.len, ri, Int.toNat_natCast]) e
end
end My

namespace My
open PySem L2 G
theorem in_go {w0 w1 w3 w5 w8 w9 : Option W} {ro : T} {r : List Int} (sr : SqW ro (r.map T.int)) {Ks : List Rk} {vs : List W} (hl : vs.length = Ks.length) {j : Nat} {a b : Int} (g0 : r[j]? = some a) (g1 : r[j + 1]? = some b) : ∀ (ts : List Int) (o7 : Option W), ∃ f,
    forGo (mgName 7) L5_law_is_run (ts.map T.int) [w0, w1, some (.pt 0), w3, some (.cl ro), w5, some (.cl (.int (j : Nat))), o7, w8, w9] [.dN (Ks.map nkF) vs] = .ok f [.dN (Ks.map nkF) vs] ∧
    ((ts.all fun t => decide (((a, b), t) ∈ Ks)) = true → ∃ p7, f = .nx [w0, w1, some (.pt 0), w3, some (.cl ro), w5, some (.cl (.int (j : Nat))), p7, w8, w9]) ∧ ((ts.all fun t => decide (((a, b), t) ∈ Ks)) = false → f = .rt (.cl (.bl false)))
  | [], o7 => ⟨_, rfl, fun _ => ⟨_, rfl⟩, fun h => by simp at h⟩
  | t :: ts, o7 => by
    rw [List.map_cons, forGo_cons, List.all_cons]
    have inn := in_flat hl true a b t (.pt 0) [Cell.dN (Ks.map nkF) vs] rfl
    rw [if_pos rfl] at inn
    have c1 : ((j : Nat) : Int) + 1 = ((j + 1 : Nat) : Int) := by omega
    have i0 := ints_get g0
    have i1 := ints_get g1
    by_cases h : ((a, b), t) ∈ Ks
    · obtain ⟨f, e, f1, f2⟩ := in_go (w0 := w0) (w1 := w1) (w3 := w3) (w5 := w5) (w8 := w8) (w9 := w9) sr hl g0 g1 ts (some (.cl (.int t)))
      rw [decide_eq_true h] at inn
      have s1 : stepF (mgName 7) L5_law_is_run (.int t) [w0, w1, some (.pt 0), w3, some (.cl ro), w5, some (.cl (.int (j : Nat))), o7, w8, w9] [.dN (Ks.map nkF) vs] = .ok (.nx [w0, w1, some (.pt 0), w3, some (.cl ro), w5, some (.cl (.int (j : Nat))), some (.cl (.int t)), w8, w9]) [.dN (Ks.map nkF) vs] := by
        simp only [stepF, L5_law_is_run, ↓bindM, ev, ef, ↓reduceIte, el, sr.ix, gx_nat, i0, c1, i1, lim3, inn]
      rw [s1, decide_eq_true h, Bool.true_and]
      exact ⟨f, e, f1, f2⟩
    · rw [decide_eq_false h] at inn
      have s1 : stepF (mgName 7) L5_law_is_run (.int t) [w0, w1, some (.pt 0), w3, some (.cl ro), w5, some (.cl (.int (j : Nat))), o7, w8, w9] [.dN (Ks.map nkF) vs] = .ok (.rt (.cl (.bl false))) [.dN (Ks.map nkF) vs] := by
        simp only [stepF, L5_law_is_run, ↓bindM, ev, ef, ↓reduceIte, el, sr.ix, gx_nat, i0, c1, i1, lim3, inn]
      rw [s1, decide_eq_false h, Bool.false_and]
      exact ⟨_, rfl, fun q => Bool.noConfusion q, fun _ => rfl⟩
theorem lastOr_bnd {s : Int} (hs : Bnd (s - 1)) : ∀ {b : List Int}, (∀ x ∈ b, Bnd x) → Bnd (lastOr s b - 1)
  | [], _ => hs
  | x :: xs, h => lastOr_bnd (s := x + 1) (by rw [Int.add_sub_cancel]; exact h x (List.mem_cons_self)) fun y hy => h y (List.mem_cons_of_mem _ hy)
section
variable {c : List Ltr} {rows : List (List Int)}
theorem rest_inner {wc wb : T} {ct ro bt : Nat → T} (hC : CrT wc c ct ro) (hR : RwT wb rows bt) (hr : rows.length = c.length) {k : Nat} (hk : k < c.length) (h60 : c.length ≤ 60) (h30 : (rt c k).length ≤ 30) (hlen : ((rD rows k).length : Int) = ((rt c k).length : Int) - 1) (hs : stD c k ≤ 100000) (hb : ∀ x ∈ rD rows k, Bnd x)
    {Ks : List Rk} {vs : List W} (hl : vs.length = Ks.length) {o5 o6 o7 o8 : Option W} :
    ∃ f, S4_law_is_run [some (.cl wc), some (.cl wb), some (.pt 0), some (.cl (.int (k : Nat))), some (.cl (ro k)), o5, o6, o7, o8, some (.cl (.int (stD c k : Nat)))] [.dN (Ks.map nkF) vs] = .ok f [.dN (Ks.map nkF) vs] ∧
      ((∃ p6 p7 p9, f = .nx [some (.cl wc), some (.cl wb), some (.pt 0), some (.cl (.int (k : Nat))), some (.cl (ro k)), o5, p6, p7, o8, p9] ∧ restB c.length (fun x => decide (x ∈ Ks)) (stD c k) (zipR c rows k) = true) ∨ (f = .rt (.cl (.bl false)) ∧ restB c.length (fun x => decide (x ∈ Ks)) (stD c k) (zipR c rows k) = false)) := by
  have zb := zipR_beats (c := c) hlen
  have RI := restB_iff c.length (fun x => decide (x ∈ Ks)) (zipR c rows k) (stD c k)
  rw [zb] at RI
  have bad : ∀ {j : Nat} {L : Int × Int} {t : Int}, (zipR c rows k)[j]? = some (L, t) → ¬ (t - lastOr (stD c k) ((rD rows k).take j) ≤ c.length ∧ ∀ u, lastOr (stD c k) ((rD rows k).take j) ≤ u → u < t → decide ((L, u) ∈ Ks) = true) → restB c.length (fun x => decide (x ∈ Ks)) (stD c k) (zipR c rows k) = false := fun {j L t} e h => by
    cases q : restB c.length (fun x => decide (x ∈ Ks)) (stD c k) (zipR c rows k) with
    | false => rfl
    | true => exact absurd (RI.mp q j L t e) h
  obtain ⟨f, cs', e, rfl, hf⟩ := for_rngP (mg := mgName 6) (mb := L4_law_is_run) (n := (rt c k).length - 1)
    (fun j ρ cs => ∃ o6 o7, cs = [.dN (Ks.map nkF) vs] ∧ ρ = [some (.cl wc), some (.cl wb), some (.pt 0), some (.cl (.int (k : Nat))), some (.cl (ro k)), o5, o6, o7, o8, some (.cl (.int (lastOr (stD c k) ((rD rows k).take j))))] ∧
      ∀ (j' : Nat) (L : Int × Int) (t : Int), j' < j → (zipR c rows k)[j']? = some (L, t) → t - lastOr (stD c k) ((rD rows k).take j') ≤ c.length ∧ ∀ u, lastOr (stD c k) ((rD rows k).take j') ≤ u → u < t → decide ((L, u) ∈ Ks) = true)
    (fun f cs' => cs' = [.dN (Ks.map nkF) vs] ∧ ((∃ p6 p7 p9, f = .nx [some (.cl wc), some (.cl wb), some (.pt 0), some (.cl (.int (k : Nat))), some (.cl (ro k)), o5, p6, p7, o8, p9] ∧ restB c.length (fun x => decide (x ∈ Ks)) (stD c k) (zipR c rows k) = true) ∨ (f = .rt (.cl (.bl false)) ∧ restB c.length (fun x => decide (x ∈ Ks)) (stD c k) (zipR c rows k) = false)))
    (fun j ρ cs hj ⟨o6, o7, h1, h2, hi⟩ => by
      subst h1 h2
      have hbj : (rD rows k)[j]? = some ((rD rows k)[j]?.getD 0) := by rw [List.getElem?_eq_getElem (by omega)]; rfl
      generalize (rD rows k)[j]?.getD 0 = t at hbj
      have hb1 := ints_get hbj
      have g0 : (rt c k)[j]? = some ((rt c k)[j]?.getD 0) := by rw [List.getElem?_eq_getElem (by omega)]; rfl
      have g1 : (rt c k)[j + 1]? = some ((rt c k)[j + 1]?.getD 0) := by rw [List.getElem?_eq_getElem (by omega)]; rfl
      have hL : (lanesOf (rt c k))[j]? = some ((rt c k)[j]?.getD 0, (rt c k)[j + 1]?.getD 0) := lanes_get (by omega)
      have hZ : (zipR c rows k)[j]? = some (((rt c k)[j]?.getD 0, (rt c k)[j + 1]?.getD 0), t) := ride_of hL hbj
      generalize (rt c k)[j]?.getD 0 = a at g0 hL hZ
      generalize (rt c k)[j + 1]?.getD 0 = b at g1 hL hZ
      have xb := hR.at_ k (by omega)
      have sb := (hR.rs k (by omega)).ix
      have tb := hb t (List.mem_of_getElem? hbj)
      have cb := lastOr_bnd (s := (stD c k : Int)) (b := (rD rows k).take j) (by unfold Bnd; omega) fun x hx => hb x (List.mem_of_mem_take hx)
      generalize hcm : lastOr (stD c k) ((rD rows k).take j) = cm at cb
      have tk : lastOr (stD c k) ((rD rows k).take (j + 1)) = t + 1 := by
        rw [show (rD rows k).take (j + 1) = (rD rows k).take j ++ [t] by rw [List.take_add_one, hbj]; rfl, lastOr_snoc]
      unfold Bnd at tb cb
      by_cases hw : t - cm ≤ c.length
      · have d : decide ((c.length : Int) < t - cm) = false := decide_eq_false (by omega)
        obtain ⟨f, e, f1, f2⟩ := in_go (w0 := some (.cl wc)) (w1 := some (.cl wb)) (w3 := some (.cl (.int (k : Nat)))) (w5 := o5) (w8 := o8) (w9 := some (.cl (.int cm))) (hC.rs k hk) hl g0 g1 (rng cm t) o7
        have r1 := rgi (j := cm) (by omega)
        have r2 := rgi (j := t) (by omega)
        have E := sfor_ok (mi := mRng2 (mCons (mVar 9) (mCons (mOp fIx (mOp fIx (mVar 1) (mVar 3)) (mVar 6)) mNil))) (cs := [Cell.dN (Ks.map nkF) vs]) (by simp only [↓bindM, ev, ef, ↓reduceIte, el, xb, sb, gx_nat, hb1, r1, r2, rng_range]) e
        rw [← S5_law_is_run] at E
        cases ha : (rng cm t).all fun t => decide (((a, b), t) ∈ Ks) with
        | true =>
          obtain ⟨p7, rfl⟩ := f1 ha
          refine .inl ⟨[some (.cl wc), some (.cl wb), some (.pt 0), some (.cl (.int (k : Nat))), some (.cl (ro k)), o5, some (.cl (.int j)), p7, o8, some (.cl (.int (t + 1)))], [.dN (Ks.map nkF) vs], ?_, some (.cl (.int j)), p7, rfl, by rw [tk], fun j' L u hj' eZ => ?_⟩
          · simp only [stepF, L4_law_is_run, ↓bindM, ev, ef, ↓reduceIte, el, xb, sb, gx_nat, hb1, hC.len, d, E]
          · by_cases q : j' = j
            · subst q
              rw [hZ] at eZ; cases eZ
              rw [hcm]
              exact ⟨hw, fun u h1 h2 => List.all_eq_true.mp ha u (rng_mem.mpr ⟨h1, h2⟩)⟩
            · exact hi j' L u (by omega) eZ
        | false =>
          have := f2 ha
          subst this
          refine .inr (.inl ⟨.cl (.bl false), [.dN (Ks.map nkF) vs], ?_, rfl, .inr ⟨rfl, bad hZ fun q => ?_⟩⟩)
          · simp only [stepF, L4_law_is_run, ↓bindM, ev, ef, ↓reduceIte, el, xb, sb, gx_nat, hb1, hC.len, d, E]
          · rw [hcm] at q
            rw [← Bool.not_eq_true] at ha
            exact ha (List.all_eq_true.mpr fun u hu => q.2 u (rng_mem.mp hu).1 (rng_mem.mp hu).2)
      · have d : decide ((c.length : Int) < t - cm) = true := decide_eq_true (by omega)
        refine .inr (.inl ⟨.cl (.bl false), [.dN (Ks.map nkF) vs], ?_, rfl, .inr ⟨rfl, bad hZ fun q => ?_⟩⟩)
        · simp only [stepF, L4_law_is_run, ↓bindM, ev, ef, ↓reduceIte, el, xb, sb, gx_nat, hb1, hC.len, d]
        · rw [hcm] at q; omega)
    (fun ρ cs ⟨o6, o7, h1, h2, hi⟩ => by
      subst h1 h2
      refine ⟨rfl, .inl ⟨o6, o7, _, rfl, RI.mpr fun j L t e => hi j L t ?_ e⟩⟩
      have := (List.getElem?_eq_some_iff.mp e).1
      unfold zipR at this
      rw [List.length_zip, lanesOf_len] at this
      omega)
    (ρ := [some (.cl wc), some (.cl wb), some (.pt 0), some (.cl (.int (k : Nat))), some (.cl (ro k)), o5, o6, o7, o8, some (.cl (.int (stD c k : Nat)))]) (cs := [.dN (Ks.map nkF) vs]) ⟨o6, o7, rfl, rfl, fun j' _ _ h => by omega⟩
  refine ⟨f, ?_, hf⟩
  unfold S4_law_is_run
  have sl := (hC.rs k hk).len
  have ri := rgi (j := ((rt c k).length : Int) - 1) (by omega)
  have tn : (((rt c k).length : Int) - 1).toNat = (rt c k).length - 1 := by omega
  exact sfor_ok (by simp only [↓bindM, ev, ef, ↓reduceIte, el, sl, List.length_map, ri, tn]) e
/-- the law's own look -/
theorem p_law_is_run {wc wb : T} {ct ro bt : Nat → T} (hC : CrT wc c ct ro) (hR : RwT wb rows bt) (h60 : c.length ≤ 60) (hl : ∀ l ∈ c, l.2.length ≤ 30 ∧ l.1 ≤ 100000) (hb : ∀ r ∈ rows, ∀ x ∈ r, Bnd x) (h1000 : rows.length ≤ 1000000)
    (hn : ∀ k, k < c.length → (lanesOf (rt c k)).Nodup) : ∃ v, g_law_is_run [wc, wb] = some (.bl v) ∧ (v = true ↔ okBs c rows = true ∧ Uniq c rows ∧ NoRest c rows) := by
  by_cases hr : rows.length = c.length
  · have d : (!decide ((rows.length : Int) = (c.length : Int))) = false := by rw [decide_eq_true (by omega)]; rfl
    have h30 : ∀ k, k < c.length → (rt c k).length ≤ 30 := fun k hk => by rw [(at_k hk).2]; exact (hl _ (List.getElem_mem hk)).1
    obtain ⟨f, cs', e, hf⟩ := gat_all hC hR hr h60 h30
    have z : ([] : Cs) ++ [Cell.dN [] []] = [Cell.dN [] []] := rfl
    have nw : ∀ ρ cs, mDNewN ρ cs = R.ok (W.pt cs.length) (cs ++ [Cell.dN [] []]) := fun _ _ => rfl
    rcases hf with ⟨Ks, vs, o3, o4, o5, o6, o7, o8, rfl, rfl, hG⟩ | ⟨rfl, hbad⟩
    · have ok : okBs c rows = true := okBs_iff.mpr ⟨hr, fun k hk => hG.ok k hk⟩
      have U : Uniq c rows := fun k j k' j' x hk hk' e e' => hG.un k j k' j' x (.inl hk) (.inl hk') e e'
      have mK : ∀ x, decide (x ∈ Ks) = true ↔ Rides c rows x.1 x.2 := fun x => by
        rw [decide_eq_true_eq, hG.mem x]
        constructor
        · rintro ⟨k, j, h1, h2⟩; exact ⟨k, j, by unfold Bef at h1; omega, h2⟩
        · rintro ⟨k, j, h1, h2⟩; exact ⟨k, j, .inl h1, h2⟩
      have RI := rest_iff (m := c.length) ok hn (Int.le_refl _) mK
      obtain ⟨f, cs', e2, rfl, hf⟩ := for_rngP (mg := mgName 3) (mb := L3_law_is_run) (n := c.length)
        (fun k ρ cs => ∃ o3 o4 o5 o6 o7 o8 o9, cs = [.dN (Ks.map nkF) vs] ∧ ρ = [some (.cl wc), some (.cl wb), some (.pt 0), o3, o4, o5, o6, o7, o8, o9] ∧ ∀ k', k' < k → restB c.length (fun x => decide (x ∈ Ks)) (stD c k') (zipR c rows k') = true)
        (fun f cs' => cs' = [.dN (Ks.map nkF) vs] ∧ ((∃ ρ', f = .nx ρ' ∧ NoRest c rows) ∨ (f = .rt (.cl (.bl false)) ∧ ¬ NoRest c rows)))
        (fun k ρ cs hk ⟨o3, o4, o5, o6, o7, o8, o9, h1, h2, hi⟩ => by
          subst h1 h2
          have xc := hC.at_ k hk
          have xr := hC.rt_ k hk
          have xs := hC.st k hk
          have er : rD rows k = rows[k]'(by omega) := by simp [rD, List.getElem?_eq_getElem (show k < rows.length by omega)]
          obtain ⟨f, e, hf⟩ := rest_inner hC hR hr hk h60 (h30 k hk) (hG.ok k hk).1 (by rw [(at_k hk).1]; exact (hl _ (List.getElem_mem hk)).2) (by rw [er]; exact hb _ (List.getElem_mem _)) hG.vl (o5 := o5) (o6 := o6) (o7 := o7) (o8 := o8)
          rcases hf with ⟨p6, p7, p9, rfl, hT⟩ | ⟨rfl, hF⟩
          · refine .inl ⟨[some (.cl wc), some (.cl wb), some (.pt 0), some (.cl (.int k)), some (.cl (ro k)), o5, p6, p7, o8, p9], [.dN (Ks.map nkF) vs], ?_, _, _, _, _, _, _, _, rfl, rfl, fun k' hk' => ?_⟩
            · simp only [stepF, L3_law_is_run, ↓bindM, ev, ef, ↓reduceIte, el, xc, xr, xs, e]
            · by_cases q : k' = k
              · subst q; exact hT
              · exact hi k' (by omega)
          · refine .inr (.inl ⟨.cl (.bl false), [.dN (Ks.map nkF) vs], ?_, rfl, .inr ⟨rfl, fun q => ?_⟩⟩)
            · simp only [stepF, L3_law_is_run, ↓bindM, ev, ef, ↓reduceIte, el, xc, xr, xs, e]
            · have := RI.mpr q k hk
              rw [hF] at this; cases this)
        (fun ρ cs ⟨o3, o4, o5, o6, o7, o8, o9, h1, h2, hi⟩ => ⟨h1, .inl ⟨ρ, rfl, RI.mp hi⟩⟩)
        (ρ := [some (.cl wc), some (.cl wb), some (.pt 0), o3, o4, o5, o6, o7, o8, none]) (cs := [.dN (Ks.map nkF) vs]) ⟨_, _, _, _, _, _, _, rfl, rfl, fun k' h => by omega⟩
      have ri := rgi (j := (c.length : Int)) (by omega)
      have E2 := sfor_ok (mi := mRng1 (mCons (mCall fLen (mCons (mVar 0) mNil)) mNil)) (cs := [Cell.dN (Ks.map nkF) vs]) (by simp only [↓bindM, ev, ef, ↓reduceIte, el, hC.len, ri, Int.toNat_natCast]) e2
      rw [← S3_law_is_run] at E2
      rcases hf with ⟨ρ', rfl, hN⟩ | ⟨rfl, hN⟩
      · refine ⟨true, run_cl (ρ := [some (.cl _), some (.cl _), none, none, none, none, none, none, none, none]) rfl ?_ (cs := [.dN (Ks.map nkF) vs]), by simp [ok, U, hN]⟩
        simp only [m_law_is_run, ↓bindM, ev, ef, ↓reduceIte, el, hC.len, hR.len, d, nw, z, e, E2]
      · refine ⟨false, run_cl (ρ := [some (.cl _), some (.cl _), none, none, none, none, none, none, none, none]) rfl ?_ (cs := [.dN (Ks.map nkF) vs]), by simp [hN]⟩
        simp only [m_law_is_run, ↓bindM, ev, ef, ↓reduceIte, el, hC.len, hR.len, d, nw, z, e, E2]
    · refine ⟨false, run_cl (ρ := [some (.cl _), some (.cl _), none, none, none, none, none, none, none, none]) rfl ?_ (cs := cs'), ?_⟩
      · simp only [m_law_is_run, ↓bindM, ev, ef, ↓reduceIte, el, hC.len, hR.len, d, nw, z, e]
      · refine ⟨fun q => Bool.noConfusion q, fun q => absurd ⟨q.1, q.2.1⟩ hbad⟩
  · have d : (!decide ((rows.length : Int) = (c.length : Int))) = true := by rw [decide_eq_false (by omega)]; rfl
    refine ⟨false, run_cl (ρ := [some (.cl _), some (.cl _), none, none, none, none, none, none, none, none]) (cs := []) rfl ?_, ?_⟩
    · simp only [m_law_is_run, ↓bindM, ev, ef, ↓reduceIte, el, hC.len, hR.len, d]
    · exact ⟨fun q => Bool.noConfusion q, fun q => absurd (okBs_iff.mp q.1).1 hr⟩
end
end My

namespace My
open PySem L2 G
/-! rows that are clean or owned or frozen, and their freezing -/
def Vv (cs : Cs) (w : W) (ts : List T) : Prop := w = .cl (.lst ts) ∨ ∃ i, w = .pt i ∧ (cs[i]? = some (.lst (ts.map .cl)) ∨ cs[i]? = some (.fz (.lst ts)))
def Vvs (cs : Cs) (ws : List W) (tss : List (List T)) : Prop := ws.length = tss.length ∧ ∀ (i : Nat) w ts, ws[i]? = some w → tss[i]? = some ts → Vv cs w ts
theorem cl_inj {ts us : List T} (h : ts.map W.cl = us.map W.cl) : ts = us := by
  induction ts generalizing us with
  | nil => cases us with
    | nil => rfl
    | cons u us => cases h
  | cons t ts ih => cases us with
    | nil => cases h
    | cons u us =>
      simp only [List.map_cons, List.cons.injEq, W.cl.injEq] at h
      rw [h.1, ih h.2]
theorem frz_vv {m : Nat} {cs : Cs} {w : W} {ts : List T} (h : Vv cs w ts) : ∃ cs', frz (m + 1) w cs = some (.lst ts, cs') ∧ (∀ w' ts', Vv cs w' ts' → Vv cs' w' ts') ∧ ∀ j, w ≠ .pt j → cs'[j]? = cs[j]? := by
  rcases h with rfl | ⟨i, rfl, h | h⟩
  · exact ⟨cs, frz_cl _ _ _, fun _ _ h => h, fun _ _ => rfl⟩
  · refine ⟨_, frz_lst h, fun w' ts' h' => ?_, fun j hj => by rw [List.getElem?_set_ne]; rintro rfl; exact hj rfl⟩
    rcases h' with rfl | ⟨j, rfl, h' | h'⟩
    · exact .inl rfl
    · refine .inr ⟨j, rfl, ?_⟩
      by_cases e : i = j
      · subst e
        rw [h] at h'
        have := cl_inj (Cell.lst.inj (Option.some.inj h'))
        subst this
        exact .inr (List.getElem?_set_self (List.getElem?_eq_some_iff.mp h).1)
      · rw [List.getElem?_set_ne e]; exact .inl h'
    · refine .inr ⟨j, rfl, ?_⟩
      by_cases e : i = j
      · subst e; rw [h] at h'; cases h'
      · rw [List.getElem?_set_ne e]; exact .inr h'
  · exact ⟨cs, frz_fz h, fun _ _ h => h, fun _ _ => rfl⟩
theorem frzs_vv {m : Nat} : ∀ {ws : List W} {tss : List (List T)} {cs : Cs}, Vvs cs ws tss → ∃ cs', frzs (frz (m + 1)) ws cs = some (tss.map T.lst, cs') ∧ (∀ w' ts', Vv cs w' ts' → Vv cs' w' ts') ∧ ∀ j, W.pt j ∉ ws → cs'[j]? = cs[j]?
  | [], [], cs, _ => ⟨cs, rfl, fun _ _ h => h, fun _ _ => rfl⟩
  | w :: ws, ts :: tss, cs, h => by
    obtain ⟨cs1, e1, k1, n1⟩ := frz_vv (m := m) (h.2 0 w ts rfl rfl)
    obtain ⟨cs2, e2, k2, n2⟩ := frzs_vv (m := m) (ws := ws) (tss := tss) (cs := cs1) ⟨by simpa using h.1, fun i w' ts' a b => k1 _ _ (h.2 (i + 1) w' ts' a b)⟩
    refine ⟨cs2, by simp only [frzs, e1, e2, List.map_cons], fun w' ts' h' => k2 _ _ (k1 _ _ h'), fun j hj => ?_⟩
    rw [List.mem_cons, not_or] at hj
    rw [n2 j hj.2, n1 j (fun q => hj.1 q.symm)]
  | [], _ :: _, _, h => by have := h.1; simp at this
  | _ :: _, [], _, h => by have := h.1; simp at this
theorem frz_top {m : Nat} {cs : Cs} {n : Nat} {ws : List W} {tss : List (List T)} (hn : cs[n]? = some (.lst ws)) (h : Vvs cs ws tss) (hp : W.pt n ∉ ws) :
    ∃ cs', frz (m + 2) (.pt n) cs = some (.lst (tss.map T.lst), cs') ∧ (∀ w ts, w ≠ .pt n → Vv cs w ts → Vv cs' w ts) ∧ ∀ j, j ≠ n → W.pt j ∉ ws → cs'[j]? = cs[j]? := by
  obtain ⟨cs1, e1, k1, n1⟩ := frzs_vv (m := m) h
  have g1 : cs1[n]? = some (.lst ws) := (n1 n hp).trans hn
  refine ⟨cs1.set n (.fz (.lst (tss.map T.lst))), ?_, fun w ts hw hv => ?_, fun j hj hm => by rw [List.getElem?_set_ne (Ne.symm hj), n1 j hm]⟩
  · show frzC (frzs (frz (m + 1))) n cs = _
    simp only [frzC, hn, e1, g1]
  · rcases k1 w ts hv with rfl | ⟨i, rfl, q⟩
    · exact .inl rfl
    · refine .inr ⟨i, rfl, ?_⟩
      rw [List.getElem?_set_ne (fun e => hw (by rw [e]))]; exact q
/-- two lists of rows, frozen -/
theorem frz_two {m : Nat} {cs : Cs} {p q : Nat} {lw bw : List W} {lt bt : List (List T)} (hp : cs[p]? = some (.lst lw)) (hq : cs[q]? = some (.lst bw)) (vl : Vvs cs lw lt) (vb : Vvs cs bw bt) (pq : p ≠ q) (a1 : W.pt p ∉ lw) (a2 : W.pt q ∉ lw) (a3 : W.pt p ∉ bw) (a4 : W.pt q ∉ bw) :
    ∃ cs', frzs (frz (m + 2)) [.pt p, .pt q] cs = some ([.lst (lt.map T.lst), .lst (bt.map T.lst)], cs') := by
  obtain ⟨cs1, e1, k1, n1⟩ := frz_top (m := m) hp vl a1
  obtain ⟨cs2, e2, _, _⟩ := frz_top (m := m) (cs := cs1) (n := q) (ws := bw) (tss := bt) ((n1 q (Ne.symm pq) a2).trans hq) ⟨vb.1, fun i w ts h1 h2 => k1 w ts (fun e => a3 (by rw [← e]; exact List.mem_of_getElem? h1)) (vb.2 i w ts h1 h2)⟩ a4
  exact ⟨cs2, by simp only [frzs, e1, e2]⟩
theorem vvs_take {cs : Cs} {ws : List W} {tss : List (List T)} (h : Vvs cs ws tss) (n : Nat) : Vvs cs (ws.take n) (tss.take n) := by
  refine ⟨by simp [h.1], fun i w ts h1 h2 => ?_⟩
  rw [List.getElem?_take] at h1 h2
  split at h1
  · rename_i hi; rw [if_pos hi] at h2; exact h.2 i w ts h1 h2
  · cases h1
theorem vvs_drop {cs : Cs} {ws : List W} {tss : List (List T)} (h : Vvs cs ws tss) (n : Nat) : Vvs cs (ws.drop n) (tss.drop n) := by
  refine ⟨by simp [h.1], fun i w ts h1 h2 => ?_⟩
  rw [List.getElem?_drop] at h1 h2
  exact h.2 _ w ts h1 h2
theorem vvs_cut {cs : Cs} {ws : List W} {tss : List (List T)} (h : Vvs cs ws tss) (lo hi : Option Int) : Vvs cs (cutL ws lo hi) (cutL tss lo hi) := by
  unfold cutL; rw [h.1]; exact vvs_take (vvs_drop h _) _
theorem vvs_set {cs : Cs} {ws : List W} {tss : List (List T)} (h : Vvs cs ws tss) {w : W} {ts : List T} (hv : Vv cs w ts) (i : Nat) : Vvs cs (ws.set i w) (tss.set i ts) := by
  refine ⟨by simp [h.1], fun j w' ts' h1 h2 => ?_⟩
  by_cases e : i = j
  · subst e
    have l1 := (List.getElem?_eq_some_iff.mp h1).1
    have l2 := (List.getElem?_eq_some_iff.mp h2).1
    rw [List.length_set] at l1 l2
    rw [List.getElem?_set_self l1] at h1
    rw [List.getElem?_set_self l2] at h2
    cases h1; cases h2; exact hv
  · rw [List.getElem?_set_ne e] at h1 h2; exact h.2 j w' ts' h1 h2
theorem vvs_snoc {cs : Cs} {ws : List W} {tss : List (List T)} (h : Vvs cs ws tss) {w : W} {ts : List T} (hv : Vv cs w ts) : Vvs cs (ws ++ [w]) (tss ++ [ts]) := by
  refine ⟨by simp [h.1], fun j w' ts' h1 h2 => ?_⟩
  by_cases hj : j < ws.length
  · rw [List.getElem?_append_left hj] at h1
    rw [List.getElem?_append_left (by rw [← h.1]; exact hj)] at h2
    exact h.2 j w' ts' h1 h2
  · have e : j = ws.length := by
      have := (List.getElem?_eq_some_iff.mp h1).1
      simp at this; omega
    subst e
    rw [List.getElem?_append_right (Nat.le_refl _)] at h1
    rw [List.getElem?_append_right (by rw [h.1]; exact Nat.le_refl _)] at h2
    simp at h1; simp [h.1] at h2
    subst h1; subst h2; exact hv
theorem vvs_cl {cs : Cs} (tss : List (List T)) : Vvs cs (tss.map fun ts => W.cl (.lst ts)) tss := by
  refine ⟨by simp, fun i w ts h1 h2 => ?_⟩
  rw [List.getElem?_map, h2] at h1
  exact .inl (Option.some.inj h1).symm
theorem vvs_mono {cs cs' : Cs} (k : ∀ w ts, Vv cs w ts → Vv cs' w ts) {ws : List W} {tss : List (List T)} (h : Vvs cs ws tss) : Vvs cs' ws tss := ⟨h.1, fun i w ts a b => k w ts (h.2 i w ts a b)⟩
theorem vvs_pts {cs : Cs} {a n : Nat} {tss : List (List T)} (hl : tss.length = n) (h : ∀ (i : Nat) ts, tss[i]? = some ts → Vv cs (.pt (a + i)) ts) : Vvs cs ((List.range' a n).map W.pt) tss := by
  refine ⟨by simp [hl], fun i w ts h1 h2 => ?_⟩
  have hi := (List.getElem?_eq_some_iff.mp h2).1
  rw [List.getElem?_map, List.getElem?_range' (by omega)] at h1
  cases h1
  have := h i ts h2
  simpa using this
theorem pts_notin {a n j : Nat} (h : j < a ∨ a + n ≤ j) : W.pt j ∉ (List.range' a n).map W.pt := fun hm => by
  obtain ⟨i, hi, e⟩ := List.mem_map.mp hm
  cases e
  have := List.mem_range'.mp hi
  omega
/-- a comprehension that makes one cell for each item -/
theorem lc_mk {α : Type} {mg : MG} {me : ME} {ρ : G.Loc} (enc : α → T) (F : α → List W) : ∀ (xs : List α) (acc : List W) (cs : Cs),
    (∀ x ∈ xs, ∀ cs, ∃ ρ', mg (.cl (enc x)) ρ cs = .ok ρ' cs ∧ me ρ' cs = .ok (.pt cs.length) (cs ++ [.lst (F x)])) → acc.length + xs.length ≤ LIM →
    lcGo mg mYes me ρ (xs.map enc) acc cs = .ok (acc ++ (List.range' cs.length xs.length).map W.pt) (cs ++ xs.map fun x => Cell.lst (F x))
  | [], acc, cs, _, _ => by simp [lcGo]
  | x :: xs, acc, cs, h, hl => by
    obtain ⟨ρ', h1, h3⟩ := h x (List.mem_cons_self) cs
    simp only [List.length_cons] at hl
    have ih := fun acc' cs' h' => lc_mk enc F xs acc' cs' (fun t ht => h t (List.mem_cons_of_mem _ ht)) h'
    rw [List.map_cons]
    unfold lcGo
    rw [h1]
    show (me ρ' cs).noEx.bind _ = _
    rw [h3]
    show (if acc.length < LIM then _ else _) = _
    rw [if_pos (by omega), ih _ _ (by simp only [List.length_append, List.length_cons, List.length_nil]; omega)]
    simp only [List.length_append, List.length_cons, List.length_nil, List.append_assoc, List.range'_succ, List.map_cons]
    rfl
theorem mlc_mk {α : Type} {vs : List Nat} {mi : MI} {mg : MG} {me : ME} {ρ : G.Loc} {cs cs1 : Cs} (enc : α → T) (F : α → List W) (xs : List α) (hi : mi ρ cs = .ok (xs.map enc) cs1) (hl : xs.length ≤ LIM)
    (h : ∀ x ∈ xs, ∀ cs, ∃ ρ', mg (.cl (enc x)) (wipeL ρ vs) cs = .ok ρ' cs ∧ me ρ' cs = .ok (.pt cs.length) (cs ++ [.lst (F x)])) :
    mLc true vs mi mg mYes me ρ cs = .ok (.pt (cs1.length + xs.length)) (cs1 ++ (xs.map fun x => Cell.lst (F x)) ++ [.lst ((List.range' cs1.length xs.length).map W.pt)]) := by
  unfold mLc
  rw [hi]
  show (lcGo mg mYes me (wipeL ρ vs) (xs.map enc) [] cs1).bind _ = _
  rw [lc_mk enc F xs [] cs1 h (by simpa using hl)]
  show newL true ([] ++ _) _ = _
  rw [List.nil_append]
  simp only [newL, if_true, List.length_append, List.length_map]
end My

namespace My
open PySem L2 G
def lt2 (l : Ltr) : List T := [.int l.1, .tup (l.2.map T.int)]
def hT2 (l : Ltr) : T := .lst (lt2 l)
def ltW (l : Ltr) : List W := (lt2 l).map W.cl
/-- the cells of beats and letters -/
def cs0 (c : List Ltr) (rows : List (List Int)) : Cs := rows.map (fun r => Cell.lst (digW r)) ++ [Cell.lst ((List.range' 0 rows.length).map W.pt)] ++ c.map (fun l => Cell.lst (ltW l)) ++ [Cell.lst ((List.range' (rows.length + 1) c.length).map W.pt)]
section
variable {c : List Ltr} {rows : List (List Int)} {n : Nat}
theorem c_row (hr : rows.length = n) {k : Nat} {r : List Int} (h : rows[k]? = some r) : (cs0 c rows)[k]? = some (.lst (digW r)) := by
  have hk := (List.getElem?_eq_some_iff.mp h).1
  unfold cs0
  rw [List.getElem?_append_left (by simp; omega), List.getElem?_append_left (by simp; omega), List.getElem?_append_left (by simpa using hk), List.getElem?_map, h]; rfl
theorem c_top (hr : rows.length = n) : (cs0 c rows)[n]? = some (.lst ((List.range' 0 n).map W.pt)) := by
  unfold cs0
  rw [List.getElem?_append_left (by simp; omega), List.getElem?_append_left (by simp; omega), List.getElem?_append_right (by simp; omega)]
  simp [hr]
theorem c_let (hr : rows.length = n) {k : Nat} {l : Ltr} (h : c[k]? = some l) : (cs0 c rows)[n + 1 + k]? = some (.lst (ltW l)) := by
  have hk := (List.getElem?_eq_some_iff.mp h).1
  unfold cs0
  rw [List.getElem?_append_left (by simp; omega), List.getElem?_append_right (by simp; omega)]
  have e : n + 1 + k - (List.map (fun r => Cell.lst (digW r)) rows ++ [Cell.lst (List.map W.pt (List.range' 0 rows.length))]).length = k := by simp; omega
  rw [e, List.getElem?_map, h]; rfl
theorem c_lts (hr : rows.length = n) (hc : c.length = n) : (cs0 c rows)[n + 1 + n]? = some (.lst ((List.range' (n + 1) n).map W.pt)) := by
  unfold cs0
  rw [List.getElem?_append_right (by simp; omega)]
  have e : n + 1 + n - (List.map (fun r => Cell.lst (digW r)) rows ++ [Cell.lst (List.map W.pt (List.range' 0 rows.length))] ++ List.map (fun l => Cell.lst (ltW l)) c).length = 0 := by simp; omega
  rw [e, hr, hc]; rfl
theorem c_len (hr : rows.length = n) (hc : c.length = n) : (cs0 c rows).length = n + 1 + n + 1 := by
  unfold cs0; simp; omega
theorem c_setr {k : Nat} (hk : k < rows.length) (r : List Int) : (cs0 c rows).set k (.lst (digW r)) = cs0 c (rows.set k r) := by
  unfold cs0
  rw [List.set_append_left _ _ (by simp; omega), List.set_append_left _ _ (by simp; omega), List.set_append_left _ _ (by simpa using hk), List.map_set, List.length_set]
theorem c_setl (hr : rows.length = n) {k : Nat} (hk : k < c.length) (l : Ltr) : (cs0 c rows).set (n + 1 + k) (.lst (ltW l)) = cs0 (c.set k l) rows := by
  unfold cs0
  rw [List.set_append_left _ _ (by simp; omega), List.set_append_right _ _ (by simp; omega)]
  have e : n + 1 + k - (List.map (fun r => Cell.lst (digW r)) rows ++ [Cell.lst (List.map W.pt (List.range' 0 rows.length))]).length = k := by simp; omega
  rw [e, List.map_set, List.length_set]
def rowL (r : List Int) : List T := r.map T.int
theorem rowT_L (rows : List (List Int)) : (rows.map rowL).map T.lst = rows.map rowT := by rw [List.map_map]; rfl
theorem hT2_L (c : List Ltr) : (c.map lt2).map T.lst = c.map hT2 := by rw [List.map_map]; rfl
theorem vv_row (hr : rows.length = n) {k : Nat} {r : List Int} (h : rows[k]? = some r) : Vv (cs0 c rows) (.pt k) (rowL r) := .inr ⟨k, rfl, .inl (c_row hr h)⟩
theorem vv_let (hr : rows.length = n) {k : Nat} {l : Ltr} (h : c[k]? = some l) : Vv (cs0 c rows) (.pt (n + 1 + k)) (lt2 l) := .inr ⟨_, rfl, .inl (c_let hr h)⟩
theorem vvs_rows (hr : rows.length = n) : Vvs (cs0 c rows) ((List.range' 0 n).map W.pt) (rows.map rowL) := vvs_pts (by simp [hr]) fun i ts h => by
  rw [List.getElem?_map] at h
  obtain ⟨r, h1, rfl⟩ := Option.map_eq_some_iff.mp h
  rw [Nat.zero_add]; exact vv_row hr h1
theorem vvs_lets (hr : rows.length = n) (hc : c.length = n) : Vvs (cs0 c rows) ((List.range' (n + 1) n).map W.pt) (c.map lt2) := vvs_pts (by simp [hc]) fun i ts h => by
  rw [List.getElem?_map] at h
  obtain ⟨l, h1, rfl⟩ := Option.map_eq_some_iff.mp h
  exact vv_let hr h1
end
/-- what is to be handed back -/
structure St (ρ : G.Loc) (cs : Cs) (c' : List Ltr) (rows' : List (List Int)) (p q : Nat) (lw bw : List W) : Prop where
  h4 : ρ[4]? = some (some (.pt p))
  h3 : ρ[3]? = some (some (.pt q))
  cp : cs[p]? = some (.lst lw)
  cq : cs[q]? = some (.lst bw)
  vl : Vvs cs lw (c'.map lt2)
  vb : Vvs cs bw (rows'.map rowL)
  pq : p ≠ q
  a1 : W.pt p ∉ lw
  a2 : W.pt q ∉ lw
  a3 : W.pt p ∉ bw
  a4 : W.pt q ∉ bw
theorem St.ret {ρ : G.Loc} {cs : Cs} {c' : List Ltr} {rows' : List (List Int)} {p q : Nat} {lw bw : List W} (h : St ρ cs c' rows' p q lw bw) : ∃ cs', mLst false (mCons (mVar 4) (mCons (mVar 3) mNil)) ρ cs = .ok (.cl (.lst [.lst (c'.map hT2), .lst (rows'.map rowT)])) cs' := by
  obtain ⟨cs', e⟩ := frz_two (m := 6) h.cp h.cq h.vl h.vb h.pq h.a1 h.a2 h.a3 h.a4
  rw [rowT_L, hT2_L] at e
  refine ⟨cs', ?_⟩
  simp only [↓bindM, ev, h.h4, h.h3, el, lim2, ↓reduceIte, ef, e]
theorem St.of {c : List Ltr} {rows : List (List Int)} {n : Nat} (hr : rows.length = n) (hc : c.length = n) {ρ : G.Loc} (h4 : ρ[4]? = some (some (.pt (n + 1 + n)))) (h3 : ρ[3]? = some (some (.pt n))) : St ρ (cs0 c rows) c rows (n + 1 + n) n ((List.range' (n + 1) n).map W.pt) ((List.range' 0 n).map W.pt) :=
  ⟨h4, h3, c_lts hr hc, c_top hr, vvs_lets hr hc, vvs_rows hr, by omega, pts_notin (by omega), pts_notin (by omega), pts_notin (by omega), pts_notin (by omega)⟩
/-- beats holds other things now -/
theorem St.beats {ρ : G.Loc} {cs : Cs} {c' : List Ltr} {rows' rows2 : List (List Int)} {p q : Nat} {lw bw bw2 : List W} (h : St ρ cs c' rows' p q lw bw) (vb : Vvs cs bw2 (rows2.map rowL)) (a3 : W.pt p ∉ bw2) (a4 : W.pt q ∉ bw2) : St ρ (cs.set q (.lst bw2)) c' rows2 p q lw bw2 := by
  have keep : ∀ {ws : List W} {tss : List (List T)}, W.pt q ∉ ws → Vvs cs ws tss → Vvs (cs.set q (.lst bw2)) ws tss := fun {ws tss} hn hv => by
    refine ⟨hv.1, fun i w ts h1 h2 => ?_⟩
    rcases hv.2 i w ts h1 h2 with rfl | ⟨j, rfl, hj⟩
    · exact .inl rfl
    · refine .inr ⟨j, rfl, ?_⟩
      have : q ≠ j := by rintro rfl; exact hn (List.mem_of_getElem? h1)
      rw [List.getElem?_set_ne this]; exact hj
  exact ⟨h.h4, h.h3, by rw [List.getElem?_set_ne (Ne.symm h.pq)]; exact h.cp, List.getElem?_set_self (List.getElem?_eq_some_iff.mp h.cq).1, keep h.a2 h.vl, keep a4 vb, h.pq, h.a1, h.a2, a3, a4⟩
theorem notin_set {w x : W} {ws : List W} {i : Nat} (h : w ∉ ws) (h2 : w ≠ x) : w ∉ ws.set i x := fun hm => by
  rcases List.mem_or_eq_of_mem_set hm with q | q
  · exact h q
  · exact h2 q
/-! what is skipped -/
theorem sk_0 {ρ : G.Loc} {cs : Cs} {q : Int} {rest : List T} (h2 : ρ[2]? = some (some (.cl (.lst (.int q :: rest))))) (hq : q ≠ 0) : I3_law_changed ρ cs = .ok (.nx ρ) cs := by
  have d : decide (q = 0) = false := decide_eq_false hq
  simp only [I3_law_changed, ↓bindM, ev, h2, ef, ↓reduceIte, el, d]
theorem sk_1 {ρ : G.Loc} {cs : Cs} {q : Int} {rest : List T} (h2 : ρ[2]? = some (some (.cl (.lst (.int q :: rest))))) (hq : q ≠ 1) : I4_law_changed ρ cs = .ok (.nx ρ) cs := by
  have d : decide (q = 1) = false := decide_eq_false hq
  simp only [I4_law_changed, ↓bindM, ev, h2, ef, ↓reduceIte, el, d]
theorem sk_2 {ρ : G.Loc} {cs : Cs} {q : Int} {rest : List T} (h2 : ρ[2]? = some (some (.cl (.lst (.int q :: rest))))) (hq : q ≠ 2) : I5_law_changed ρ cs = .ok (.nx ρ) cs := by
  have d : decide (q = 2) = false := decide_eq_false hq
  simp only [I5_law_changed, ↓bindM, ev, h2, ef, ↓reduceIte, el, d]
theorem sk_3 {ρ : G.Loc} {cs : Cs} {q : Int} {rest : List T} (h2 : ρ[2]? = some (some (.cl (.lst (.int q :: rest))))) (hq : q ≠ 3) : I6_law_changed ρ cs = .ok (.nx ρ) cs := by
  have d : decide (q = 3) = false := decide_eq_false hq
  simp only [I6_law_changed, ↓bindM, ev, h2, ef, ↓reduceIte, el, d]
theorem sk_4 {ρ : G.Loc} {cs : Cs} {q : Int} {rest : List T} (h2 : ρ[2]? = some (some (.cl (.lst (.int q :: rest))))) (hq : q ≠ 4) : I7_law_changed ρ cs = .ok (.nx ρ) cs := by
  have d : decide (q = 4) = false := decide_eq_false hq
  simp only [I7_law_changed, ↓bindM, ev, h2, ef, ↓reduceIte, el, d]
theorem sk_5 {ρ : G.Loc} {cs : Cs} {q : Int} {rest : List T} (h2 : ρ[2]? = some (some (.cl (.lst (.int q :: rest))))) (hq : q ≠ 5) : I8_law_changed ρ cs = .ok (.nx ρ) cs := by
  have d : decide (q = 5) = false := decide_eq_false hq
  simp only [I8_law_changed, ↓bindM, ev, h2, ef, ↓reduceIte, el, d]
theorem sk_6 {ρ : G.Loc} {cs : Cs} {q : Int} {rest : List T} (h2 : ρ[2]? = some (some (.cl (.lst (.int q :: rest))))) (hq : q ≠ 6) : I9_law_changed ρ cs = .ok (.nx ρ) cs := by
  have d : decide (q = 6) = false := decide_eq_false hq
  simp only [I9_law_changed, ↓bindM, ev, h2, ef, ↓reduceIte, el, d]
theorem sk_7 {ρ : G.Loc} {cs : Cs} {q : Int} {rest : List T} (h2 : ρ[2]? = some (some (.cl (.lst (.int q :: rest))))) (hq : q ≠ 7) : I10_law_changed ρ cs = .ok (.nx ρ) cs := by
  have d : decide (q = 7) = false := decide_eq_false hq
  simp only [I10_law_changed, ↓bindM, ev, h2, ef, ↓reduceIte, el, d]
theorem sk_8 {ρ : G.Loc} {cs : Cs} {q : Int} {rest : List T} (h2 : ρ[2]? = some (some (.cl (.lst (.int q :: rest))))) (hq : q ≠ 8) : I11_law_changed ρ cs = .ok (.nx ρ) cs := by
  have d : decide (q = 8) = false := decide_eq_false hq
  simp only [I11_law_changed, ↓bindM, ev, h2, ef, ↓reduceIte, el, d]
theorem sk_9 {ρ : G.Loc} {cs : Cs} {q : Int} {rest : List T} (h2 : ρ[2]? = some (some (.cl (.lst (.int q :: rest))))) (hq : q ≠ 9) : I12_law_changed ρ cs = .ok (.nx ρ) cs := by
  have d : decide (q = 9) = false := decide_eq_false hq
  simp only [I12_law_changed, ↓bindM, ev, h2, ef, ↓reduceIte, el, d]
theorem sk_10 {ρ : G.Loc} {cs : Cs} {q : Int} {rest : List T} (h2 : ρ[2]? = some (some (.cl (.lst (.int q :: rest))))) (hq : q ≠ 10) : I13_law_changed ρ cs = .ok (.nx ρ) cs := by
  have d : decide (q = 10) = false := decide_eq_false hq
  simp only [I13_law_changed, ↓bindM, ev, h2, ef, ↓reduceIte, el, d]
theorem sk_11 {ρ : G.Loc} {cs : Cs} {q : Int} {rest : List T} (h2 : ρ[2]? = some (some (.cl (.lst (.int q :: rest))))) (hq : q ≠ 11) : I14_law_changed ρ cs = .ok (.nx ρ) cs := by
  have d : decide (q = 11) = false := decide_eq_false hq
  simp only [I14_law_changed, ↓bindM, ev, h2, ef, ↓reduceIte, el, d]
theorem sk_13 {ρ : G.Loc} {cs : Cs} {q : Int} {rest : List T} (h2 : ρ[2]? = some (some (.cl (.lst (.int q :: rest))))) (hq : q ≠ 13) : I15_law_changed ρ cs = .ok (.nx ρ) cs := by
  have d : decide (q = 13) = false := decide_eq_false hq
  simp only [I15_law_changed, ↓bindM, ev, h2, ef, ↓reduceIte, el, d]
theorem sk_14 {ρ : G.Loc} {cs : Cs} {q : Int} {rest : List T} (h2 : ρ[2]? = some (some (.cl (.lst (.int q :: rest))))) (hq : q ≠ 14) : I16_law_changed ρ cs = .ok (.nx ρ) cs := by
  have d : decide (q = 14) = false := decide_eq_false hq
  simp only [I16_law_changed, ↓bindM, ev, h2, ef, ↓reduceIte, el, d]
theorem sk_12 {ρ : G.Loc} {cs : Cs} {q : Int} {rest : List T} (h2 : ρ[2]? = some (some (.cl (.lst (.int q :: rest))))) (hq : q ≠ 12) : I1_law_changed ρ cs = .ok (.nx ρ) cs := by
  have d : decide (q = 12) = false := decide_eq_false hq
  simp only [I1_law_changed, ↓bindM, ev, h2, ef, ↓reduceIte, el, d]
end My

namespace My
open PySem L2 G
theorem seqL_pt (cs : Cs) (j : Nat) : seqL cs (W.pt j) = lstOf cs[j]? := by
  simp only [seqL]
  cases cs[j]? with
  | none => rfl
  | some c => cases c with
    | fz t => cases t <;> rfl
    | _ => rfl
theorem add_pt (b : Bool) (j : Nat) (us : List T) (cs : Cs) : fAdd b (.pt j) (.cl (.lst us)) cs = match lstOf cs[j]? with | some ws => (if ws.length + us.length ≤ LIM then newL b (ws ++ us.map W.cl) cs else .no) | none => .no := by
  show (match seqL cs (W.pt j), some (us.map W.cl) with
    | some ws, some zs => if ws.length + zs.length ≤ LIM then newL b (ws ++ zs) cs else .no
    | _, _ => .no) = _
  rw [seqL_pt]
  cases lstOf cs[j]? with
  | none => rfl
  | some ws => simp only [List.length_map]
theorem add_lt (us vs : List T) (cs : Cs) (h : us.length + vs.length ≤ LIM) : fAdd true (.cl (.lst us)) (.cl (.lst vs)) cs = .ok (.pt cs.length) (cs ++ [.lst ((us ++ vs).map W.cl)]) := by
  simp only [fAdd, seqL, List.length_map, h, if_true, newL, List.map_append]
theorem sl_pt (b : Bool) (j : Nat) (lo hi : Option Int) (cs : Cs) : fSl b (.pt j) lo hi cs = match lstOf cs[j]? with | some ws => newL b (cutL ws lo hi) cs | none => .no := by
  show (match seqL cs (W.pt j) with
    | some ws => newL b (cutL ws lo hi) cs
    | none => .no) = _
  rw [seqL_pt]
theorem cut_dig (r : List Int) (lo hi : Option Int) : cutL (digW r) lo hi = digW (cutL r lo hi) := by
  simp only [cutL, digW, List.length_map, List.map_take, List.map_drop]
theorem cut_map {α β : Type} (f : α → β) (r : List α) (lo hi : Option Int) : cutL (r.map f) lo hi = (cutL r lo hi).map f := by
  simp only [cutL, List.length_map, List.map_take, List.map_drop]
theorem cut_le {α : Type} (r : List α) (lo hi : Option Int) : (cutL r lo hi).length ≤ r.length := by
  unfold cutL; rw [List.length_take, List.length_drop]; omega
theorem cut_mem {α : Type} {r : List α} {lo hi : Option Int} {x : α} (h : x ∈ cutL r lo hi) : x ∈ r := List.mem_of_mem_drop (List.mem_of_mem_take h)
theorem list_tup (ts : List T) (cs : Cs) : fList true [W.cl (.tup ts)] cs = .ok (.pt cs.length) (cs ++ [.lst (ts.map W.cl)]) := rfl
theorem lims' {n : Nat} (h : n ≤ 100000) : (n ≤ LIM) = True := by simp only [eq_iff_iff, iff_true]; unfold LIM; omega
theorem newL_dig (r : List Int) (cs : Cs) : newL false (digW r) cs = .ok (.cl (.lst (r.map T.int))) cs := by
  unfold digW; simp only [newL, frzs_cls, Bool.false_eq_true, if_false]
theorem add_ll (us vs : List T) (cs : Cs) : fAdd false (.cl (.lst us)) (.cl (.lst vs)) cs = if us.length + vs.length ≤ LIM then .ok (.cl (.lst (us ++ vs))) cs else .no := by
  simp only [fAdd, seqL, List.length_map, newL, Bool.false_eq_true, if_false, ← List.map_append, frzs_cls]
def drS : List Int := [60, 60, 12, 3, 8, 24, 60, 5]
/-- the law's question about one kind -/
structure Rw (c : List Ltr) (rows : List (List Int)) (n : Nat) : Prop where
  hr : rows.length = n
  hc : c.length = n
  n59 : n ≤ 59
  rl : ∀ r ∈ rows, r.length ≤ 1000
  rb : ∀ r ∈ rows, ∀ x ∈ r, 0 ≤ x ∧ x ≤ 1000000
/-- what comes back -/
structure Cd (c : List Ltr) (c' : List Ltr) (rows' : List (List Int)) : Prop where
  cl : c'.length ≤ 60
  cm : ∀ l ∈ c', ∃ l0 ∈ c, l.2 = l0.2 ∧ l.1 ≤ l0.1 + 1
  rl : rows'.length ≤ 60
  rr : ∀ r ∈ rows', r.length ≤ 3000 ∧ ∀ x ∈ r, Bnd x
section
variable {c : List Ltr} {rows : List (List Int)} {n : Nat}
theorem Rw.rd (R : Rw c rows n) {k : Nat} (hk : k < n) : rD rows k ∈ rows := by
  have := R.hr
  have e : rD rows k = rows[k]'(by omega) := by simp [rD, List.getElem?_eq_getElem (show k < rows.length by omega)]
  rw [e]; exact List.getElem_mem _
theorem Rw.bd (R : Rw c rows n) {r : List Int} (h : r ∈ rows) : r.length ≤ 3000 ∧ ∀ x ∈ r, Bnd x := ⟨by have := R.rl r h; omega, fun x hx => by have := R.rb r h x hx; unfold Bnd; omega⟩
/-- the rows are the same but for one -/
theorem Rw.set1 (R : Rw c rows n) {k : Nat} {r : List Int} (h : r.length ≤ 3000 ∧ ∀ x ∈ r, Bnd x) : Cd c c (rows.set k r) :=
  ⟨by have := R.hc; have := R.n59; omega, fun l hl => ⟨l, hl, rfl, by omega⟩, by have := R.hr; have := R.n59; simp; omega, fun x hx => by
    rcases List.mem_or_eq_of_mem_set hx with q | q
    · exact R.bd q
    · rw [q]; exact h⟩
def ρ1 (c : List Ltr) (rows : List (List Int)) (n : Nat) (row : T) : G.Loc := [some (.cl (.lst (c.map ltT))), some (.cl (.tup (rows.map bT))), some (.cl row), some (.pt n), some (.pt (n + 1 + n)), none, none, none, none, none, none, none, none]
theorem ch_C1 (R : Rw c rows n) {w0 w2 : Option W} : C1_law_changed [w0, some (.cl (.tup (rows.map bT))), w2, none, none, none, none, none, none, none, none, none, none] [] = .ok (.pt n) (rows.map (fun r => Cell.lst (digW r)) ++ [Cell.lst ((List.range' 0 n).map W.pt)]) := by
  have h := mlc_mk (vs := [10]) (mi := mSeq (mVar 1)) (mg := mgName 10) (me := E1_law_changed) (ρ := [w0, some (.cl (.tup (rows.map bT))), w2, none, none, none, none, none, none, none, none, none, none]) (cs := []) (cs1 := []) bT digW rows (by simp only [↓bindM, ev, ef, el]) (lLim (by have := R.hr; have := R.n59; omega)) fun r hr cs => ⟨_, rfl, by
    simp only [E1_law_changed, bT, ↓bindM, ev, el, list_tup]; rfl⟩
  unfold C1_law_changed
  rw [h]
  simp only [el, List.nil_append, Nat.zero_add, R.hr]
theorem ch_C2 (R : Rw c rows n) {w1 w2 : Option W} : C2_law_changed [some (.cl (.lst (c.map ltT))), w1, w2, some (.pt n), none, none, none, none, none, none, none, none, none] (rows.map (fun r => Cell.lst (digW r)) ++ [Cell.lst ((List.range' 0 n).map W.pt)]) = .ok (.pt (n + 1 + n)) (cs0 c rows) := by
  have h := mlc_mk (vs := [11]) (mi := mSeq (mVar 0)) (mg := mgName 11) (me := E2_law_changed) (ρ := [some (.cl (.lst (c.map ltT))), w1, w2, some (.pt n), none, none, none, none, none, none, none, none, none]) (cs := rows.map (fun r => Cell.lst (digW r)) ++ [Cell.lst ((List.range' 0 n).map W.pt)]) (cs1 := rows.map (fun r => Cell.lst (digW r)) ++ [Cell.lst ((List.range' 0 n).map W.pt)]) ltT ltW c (by simp only [↓bindM, ev, ef, el]) (lLim (by have := R.hc; have := R.n59; omega)) fun l hl cs => ⟨_, rfl, by
    simp only [E2_law_changed, ltT, ↓bindM, ev, ef, ↓reduceIte, el, lim2]; rfl⟩
  unfold C2_law_changed
  rw [h]
  have e : (rows.map (fun r => Cell.lst (digW r)) ++ [Cell.lst ((List.range' 0 n).map W.pt)]).length = n + 1 := by simp [R.hr]
  rw [e, R.hc]
  unfold cs0
  rw [R.hr, R.hc]
def busy (rows : List (List Int)) (n : Nat) : List Nat := (List.range n).filter fun k => decide (0 < (rD rows k).length)
theorem g_pt (R : Rw c rows n) {k : Nat} (hk : k < n) : ((List.range' 0 n).map W.pt)[k]? = some (.pt k) := pts_get hk
theorem ch_C3 (R : Rw c rows n) (row : T) : C3_law_changed (ρ1 c rows n row) (cs0 c rows) = .ok (.cl (.lst ((busy rows n).map natT))) (cs0 c rows) := by
  have rn := rgi (j := (n : Int)) (by have := R.n59; omega)
  have h := mlc_enc (vs := [6]) (mi := mRng1 (mCons (mCall fLen (mCons (mVar 0) mNil)) mNil)) (mg := mgName 6) (mt := T3_law_changed) (me := E3_law_changed) (ρ := ρ1 c rows n row) (cs := cs0 c rows) (cs1 := cs0 c rows) natT natT id (fun k => decide (0 < (rD rows k).length)) (List.range n) (by
    simp only [ρ1, ↓bindM, ev, ef, ↓reduceIte, el, List.length_map, R.hc, rn, Int.toNat_natCast, rangeT, Int.zero_add]; rfl) (lLim (by have := R.n59; simp; omega)) fun k hk => ⟨_, rfl, by
      have hk := List.mem_range.mp hk
      have cr := c_row (c := c) R.hr (get_rD (xs := rows) (k := k) (by have := R.hr; omega))
      have e : decide ((0 : Int) < (digW (rD rows k)).length) = decide (0 < (rD rows k).length) := by rw [digW_len, decide_eq_decide]; omega
      simp only [T3_law_changed, ρ1, natT, ↓bindM, ev, ef, ↓reduceIte, el, ep, c_top R.hr, gx_nat, g_pt R hk, cr, e], fun _ => by simp only [E3_law_changed, ρ1, natT, ev, el, id]⟩
  unfold C3_law_changed
  rw [h]
  simp only [List.map_id]
  rfl
/-- the state behind the picks -/
def ρ2 (c : List Ltr) (rows : List (List Int)) (n : Nat) (row : T) (k j a : Nat) (bs : List Nat) : G.Loc := [some (.cl (.lst (c.map ltT))), some (.cl (.tup (rows.map bT))), some (.cl row), some (.pt n), some (.pt (n + 1 + n)), some (.cl (.lst (bs.map natT))), some (.cl (.int k)), some (.cl (.int j)), some (.pt k), some (.cl (.int a)), none, none, none]
end
end My

namespace My
open PySem L2 G
section
variable {c : List Ltr} {rows : List (List Int)} {n : Nat}
def KindOk (c : List Ltr) (I : MS) (ρ : G.Loc) (cs : Cs) : Prop := ∃ ρ' cs' c' rows' p q lw bw, I ρ cs = .ok (.nx ρ') cs' ∧ St ρ' cs' c' rows' p q lw bw ∧ Cd c c' rows' ∧ ρ'[2]? = ρ[2]?
variable {k j a : Nat} {bs : List Nat} {rest : List T}
theorem Rw.sr (R : Rw c rows n) (hk : k < n) : k < rows.length := by have := R.hr; omega
theorem set_len (R : Rw c rows n) (r : List Int) : (rows.set k r).length = n := by rw [List.length_set]; exact R.hr
theorem bnd_of (R : Rw c rows n) {r : List Int} (h : r ∈ rows) {x : Int} (hx : x ∈ r) : 0 ≤ x ∧ x ≤ 1000000 := R.rb r h x hx
theorem set_bd (R : Rw c rows n) {r : List Int} (h : r ∈ rows) {i : Nat} {x : Int} (hx : Bnd x) : (r.set i x).length ≤ 3000 ∧ ∀ y ∈ r.set i x, Bnd y := ⟨by rw [List.length_set]; exact (R.bd h).1, fun y hy => by
  rcases List.mem_or_eq_of_mem_set hy with q | q
  · exact (R.bd h).2 y q
  · rw [q]; exact hx⟩
theorem kd_0 (R : Rw c rows n) (hk : k < n) (ha : a < (rD rows k).length) : KindOk c I3_law_changed (ρ2 c rows n (.lst (.int 0 :: rest)) k j a bs) (cs0 c rows) := by
  have hm := R.rd hk
  have cr := c_row (c := c) R.hr (get_rD (R.sr hk))
  have gd := digW_get (List.getElem?_eq_getElem ha)
  have ia : ixN (digW (rD rows k)).length (a : Int) = some a := gx_ix (by rw [digW_len]; exact ha)
  have b0 := bnd_of R hm (List.getElem_mem ha)
  refine ⟨_, _, _, _, _, _, _, _, ?_, St.of (ρ := ρ2 c rows n (.lst (.int 0 :: rest)) k j a bs) (set_len R ((rD rows k).set a ((rD rows k)[a] - 1))) R.hc rfl rfl, R.set1 (k := k) (set_bd R hm (i := a) (x := (rD rows k)[a] - 1) (by unfold Bnd; omega)), rfl⟩
  simp only [I3_law_changed, ρ2, ↓bindM, ev, ef, ↓reduceIte, el, ep, cr, gx_nat, gd, ia, digW_set, c_setr (R.sr hk)]
theorem kd_1 (R : Rw c rows n) (hk : k < n) (ha : a < (rD rows k).length) : KindOk c I4_law_changed (ρ2 c rows n (.lst (.int 1 :: rest)) k j a bs) (cs0 c rows) := by
  have hm := R.rd hk
  have cr := c_row (c := c) R.hr (get_rD (R.sr hk))
  have gd := digW_get (List.getElem?_eq_getElem ha)
  have ia : ixN (digW (rD rows k)).length (a : Int) = some a := gx_ix (by rw [digW_len]; exact ha)
  have b0 := bnd_of R hm (List.getElem_mem ha)
  refine ⟨_, _, _, _, _, _, _, _, ?_, St.of (ρ := ρ2 c rows n (.lst (.int 1 :: rest)) k j a bs) (set_len R ((rD rows k).set a ((rD rows k)[a] + 1))) R.hc rfl rfl, R.set1 (k := k) (set_bd R hm (i := a) (x := (rD rows k)[a] + 1) (by unfold Bnd; omega)), rfl⟩
  simp only [I4_law_changed, ρ2, ↓bindM, ev, ef, ↓reduceIte, el, ep, cr, gx_nat, gd, ia, digW_set, c_setr (R.sr hk)]
theorem top_set (R : Rw c rows n) {ws : List W} {cs : Cs} (h : cs[n]? = some (.lst ws)) (x : Cell) : (cs.set n x)[n]? = some x := List.getElem?_set_self (List.getElem?_eq_some_iff.mp h).1
/-- beats[k] = a clean row -/
theorem St.clean (R : Rw c rows n) {cs : Cs} {ρ : G.Loc} (h4 : ρ[4]? = some (some (.pt (n + 1 + n)))) (h3 : ρ[3]? = some (some (.pt n))) (keep : ∀ w ts, Vv (cs0 c rows) w ts → Vv cs w ts) (hp : cs[n + 1 + n]? = (cs0 c rows)[n + 1 + n]?) (hq : cs[n]? = (cs0 c rows)[n]?) (r : List Int) :
    St ρ (cs.set n (.lst (((List.range' 0 n).map W.pt).set k (.cl (.lst (r.map T.int)))))) c (rows.set k r) (n + 1 + n) n ((List.range' (n + 1) n).map W.pt) (((List.range' 0 n).map W.pt).set k (.cl (.lst (r.map T.int)))) := by
  have s0 : St ρ cs c rows (n + 1 + n) n ((List.range' (n + 1) n).map W.pt) ((List.range' 0 n).map W.pt) :=
    ⟨h4, h3, hp.trans (c_lts R.hr R.hc), hq.trans (c_top R.hr), vvs_mono keep (vvs_lets R.hr R.hc), vvs_mono keep (vvs_rows R.hr), by omega, pts_notin (by omega), pts_notin (by omega), pts_notin (by omega), pts_notin (by omega)⟩
  refine s0.beats ?_ (notin_set (pts_notin (by omega)) (fun e => nomatch e)) (notin_set (pts_notin (by omega)) fun e => nomatch e)
  rw [List.map_set]
  exact vvs_set (vvs_mono keep (vvs_rows R.hr)) (.inl rfl) k
theorem kd_3 (R : Rw c rows n) (hk : k < n) (ha : a < (rD rows k).length) : KindOk c I6_law_changed (ρ2 c rows n (.lst (.int 3 :: rest)) k j a bs) (cs0 c rows) := by
  have hm := R.rd hk
  have cr := c_row (c := c) R.hr (get_rD (R.sr hk))
  have ik : ixN (List.range' 0 n).length (k : Int) = some k := gx_ix (by simpa using hk)
  have rl := (R.rl _ hm)
  have l1 := cut_le (rD rows k) none (some (a : Int))
  have l2 := cut_le (rD rows k) (some ((a : Int) + 1)) none
  have lim : ((cutL (rD rows k) none (some (a : Int))).length + (cutL (rD rows k) (some ((a : Int) + 1)) none).length ≤ LIM) = True := lims' (by omega)
  refine ⟨_, _, _, _, _, _, _, _, ?_, St.clean R (k := k) (ρ := ρ2 c rows n (.lst (.int 3 :: rest)) k j a bs) rfl rfl (fun _ _ h => h) rfl rfl (cutL (rD rows k) none (some (a : Int)) ++ cutL (rD rows k) (some ((a : Int) + 1)) none), R.set1 ⟨by rw [List.length_append]; omega, fun x hx => ?_⟩, rfl⟩
  · simp only [I6_law_changed, ρ2, ↓bindM, ev, ef, ↓reduceIte, el, ep, sl_pt, cr, cut_dig, frzs_dig, add_ll, List.length_map, lim, c_top R.hr, ik, List.map_append]
  · rcases List.mem_append.mp hx with h | h
    · exact (R.bd hm).2 x (cut_mem h)
    · exact (R.bd hm).2 x (cut_mem h)
theorem kd_14 (R : Rw c rows n) (hk : k < n) : KindOk c I16_law_changed (ρ2 c rows n (.lst (.int 14 :: rest)) k j a bs) (cs0 c rows) := by
  have hm := R.rd hk
  have cr := c_row (c := c) R.hr (get_rD (R.sr hk))
  have ik : ixN ((List.range' 0 n).map W.pt).length (k : Int) = some k := gx_ix (by simpa using hk)
  refine ⟨_, _, _, _, _, _, _, _, ?_, St.clean R (k := k) (ρ := ρ2 c rows n (.lst (.int 14 :: rest)) k j a bs) rfl rfl (fun _ _ h => h) rfl rfl (cutL (rD rows k) none (some (-1))), R.set1 ⟨by have := cut_le (rD rows k) none (some (-1)); have := (R.bd hm).1; omega, fun x hx => (R.bd hm).2 x (cut_mem hx)⟩, rfl⟩
  simp only [I16_law_changed, ρ2, ↓bindM, ev, ef, ↓reduceIte, el, ep, sl_pt, cr, cut_dig, frzs_dig, c_top R.hr, ik]
theorem kd_4 (R : Rw c rows n) (hk : k < n) (ha : a < (rD rows k).length) : KindOk c I7_law_changed (ρ2 c rows n (.lst (.int 4 :: rest)) k j a bs) (cs0 c rows) := by
  have hm := R.rd hk
  have cr := c_row (c := c) R.hr (get_rD (R.sr hk))
  have ne : rD rows k ≠ [] := by intro q; rw [q] at ha; simp at ha
  obtain ⟨y, hy, _⟩ := last_of ne 0
  have gl : (digW (rD rows k)).getLast? = some (W.cl (.int y)) := by unfold digW; rw [List.getLast?_map, List.getLast?_map, hy]; rfl
  have yb := bnd_of R hm (List.mem_of_getLast? hy)
  have lim : (digW (rD rows k)).length < LIM := by rw [digW_len]; have := R.rl _ hm; unfold LIM; omega
  refine ⟨_, _, _, _, _, _, _, _, ?_, St.of (ρ := ρ2 c rows n (.lst (.int 4 :: rest)) k j a bs) (set_len R (rD rows k ++ [y + 1])) R.hc rfl rfl, R.set1 (k := k) ⟨by have := R.rl _ hm; simp; omega, fun x hx => ?_⟩, rfl⟩
  · simp only [I7_law_changed, ρ2, ↓bindM, ev, ef, ↓reduceIte, el, ep, cr, gl, lim, digW_snoc, c_setr (R.sr hk)]
  · rcases List.mem_append.mp hx with h | h
    · exact (R.bd hm).2 x h
    · have : x = y + 1 := by simpa using h
      subst this; unfold Bnd; omega
theorem kd_10 (R : Rw c rows n) (hk : k < n) (ha : a < (rD rows k).length) : KindOk c I13_law_changed (ρ2 c rows n (.lst (.int 10 :: rest)) k j a bs) (cs0 c rows) := by
  have hm := R.rd hk
  have cr := c_row (c := c) R.hr (get_rD (R.sr hk))
  have ia : ixN (digW (rD rows k)).length (-1 : Int) = some ((rD rows k).length - 1) := by
    rw [digW_len]; unfold ixN
    rw [if_neg (by omega), if_pos (by omega)]
    congr 1; omega
  refine ⟨_, _, _, _, _, _, _, _, ?_, St.of (ρ := ρ2 c rows n (.lst (.int 10 :: rest)) k j a bs) (set_len R ((rD rows k).set ((rD rows k).length - 1) 5000)) R.hc rfl rfl, R.set1 (k := k) (set_bd R hm (i := (rD rows k).length - 1) (x := 5000) (by unfold Bnd; omega)), rfl⟩
  simp only [I13_law_changed, ρ2, ↓bindM, ev, ef, ↓reduceIte, el, ep, cr, ia, digW_set, c_setr (R.sr hk)]
theorem kd_11 (R : Rw c rows n) (hk : k < n) (ha : a < (rD rows k).length) : KindOk c I14_law_changed (ρ2 c rows n (.lst (.int 11 :: rest)) k j a bs) (cs0 c rows) := by
  have hm := R.rd hk
  have cr := c_row (c := c) R.hr (get_rD (R.sr hk))
  by_cases h1 : 1 < (rD rows k).length
  · have d : decide ((1 : Int) < ((rD rows k).length : Nat)) = true := decide_eq_true (by omega)
    have ia : ixN (rD rows k).length (-1 : Int) = some ((rD rows k).length - 1) := by
      unfold ixN
      rw [if_neg (by omega), if_pos (by omega)]
      congr 1; omega
    have h2 : (rD rows k).length - 2 < (rD rows k).length := by omega
    have g2 : atI (digW (rD rows k)) (-2) = some (W.cl (.int (rD rows k)[(rD rows k).length - 2])) := by
      unfold atI ixN
      rw [digW_len, if_neg (by omega), if_pos (by omega)]
      have e : ((-2 : Int) + ((rD rows k).length : Nat)).toNat = (rD rows k).length - 2 := by omega
      simp only [Option.bind_some, e]
      exact digW_get (List.getElem?_eq_getElem h2)
    have yb := bnd_of R hm (List.getElem_mem h2)
    refine ⟨_, _, _, _, _, _, _, _, ?_, St.of (ρ := ρ2 c rows n (.lst (.int 11 :: rest)) k j a bs) (set_len R ((rD rows k).set ((rD rows k).length - 1) (rD rows k)[(rD rows k).length - 2])) R.hc rfl rfl, R.set1 (k := k) (set_bd R hm (i := (rD rows k).length - 1) (x := (rD rows k)[(rD rows k).length - 2]) (by unfold Bnd; omega)), rfl⟩
    simp only [I14_law_changed, ρ2, ↓bindM, ev, ef, ↓reduceIte, el, ep, cr, digW_len, d, g2, ia, digW_set, c_setr (R.sr hk)]
  · have d : decide ((1 : Int) < ((rD rows k).length : Nat)) = false := decide_eq_false (by omega)
    refine ⟨_, _, _, _, _, _, _, _, ?_, St.of (ρ := ρ2 c rows n (.lst (.int 11 :: rest)) k j a bs) R.hr R.hc rfl rfl, ⟨by have := R.hc; have := R.n59; omega, fun l hl => ⟨l, hl, rfl, by omega⟩, by have := R.hr; have := R.n59; omega, fun r hr => R.bd hr⟩, rfl⟩
    simp only [I14_law_changed, ρ2, ↓bindM, ev, ef, ↓reduceIte, el, ep, cr, digW_len, d]
end
end My

namespace My
open PySem L2 G
section
variable {c : List Ltr} {rows : List (List Int)} {n k j a : Nat} {bs : List Nat} {rest : List T}
theorem Cd.same (R : Rw c rows n) {rows' : List (List Int)} (hl : rows'.length ≤ 60) (h : ∀ r ∈ rows', r.length ≤ 3000 ∧ ∀ x ∈ r, Bnd x) : Cd c c rows' :=
  ⟨by have := R.hc; have := R.n59; omega, fun l hl => ⟨l, hl, rfl, by omega⟩, hl, h⟩
theorem Cd.let1 (R : Rw c rows n) {k : Nat} {l : Ltr} (h : ∃ l0 ∈ c, l.2 = l0.2 ∧ l.1 ≤ l0.1 + 1) : Cd c (c.set k l) rows :=
  ⟨by have := R.hc; have := R.n59; simp; omega, fun x hx => by
    rcases List.mem_or_eq_of_mem_set hx with q | q
    · exact ⟨x, q, rfl, by omega⟩
    · rw [q]; exact h, by have := R.hr; have := R.n59; omega, fun r hr => R.bd hr⟩
theorem kd_2 (R : Rw c rows n) (hk : k < n) (hj : j < n) : KindOk c I5_law_changed (ρ2 c rows n (.lst (.int 2 :: rest)) k j a bs) (cs0 c rows) := by
  have ik : ixN (List.range' 0 n).length (k : Int) = some k := gx_ix (by simpa using hk)
  have ij : ixN (List.range' 0 n).length (j : Int) = some j := gx_ix (by simpa using hj)
  have ct := c_top (c := c) R.hr
  have ct2 := fun x => top_set R ct x
  have s0 := St.of (c := c) R.hr R.hc (ρ := ρ2 c rows n (.lst (.int 2 :: rest)) k j a bs) rfl rfl
  have vk := vv_row (c := c) R.hr (get_rD (R.sr hk))
  have vj := vv_row (c := c) R.hr (get_rD (R.sr hj))
  have vb := vvs_set (vvs_set (vvs_rows (c := c) R.hr) vj k) vk j
  have eT : ((rows.map rowL).set k (rowL (rD rows j))).set j (rowL (rD rows k)) = ((rows.set k (rD rows j)).set j (rD rows k)).map rowL := by rw [List.map_set, List.map_set]
  rw [eT] at vb
  have m1 : ∀ x, n ≤ x → W.pt x ∉ (((List.range' 0 n).map W.pt).set k (W.pt j)).set j (W.pt k) := fun x hx => notin_set (notin_set (pts_notin (by omega)) (fun e => by injection e; omega)) (fun e => by injection e; omega)
  have ll : ((rows.set k (rD rows j)).set j (rD rows k)).length ≤ 60 := by have := R.hr; have := R.n59; simp; omega
  refine ⟨_, _, _, _, _, _, _, _, ?_, s0.beats vb (m1 _ (by omega)) (m1 _ (by omega)), Cd.same R ll fun r hr => ?_, rfl⟩
  · simp only [I5_law_changed, ρ2, ↓bindM, ev, ef, ↓reduceIte, el, ep, ct, gx_nat, g_pt R hj, List.length_map, ik, ct2, List.length_set, ij, List.set_set]
  · rcases List.mem_or_eq_of_mem_set hr with q | q
    · rcases List.mem_or_eq_of_mem_set q with q | q
      · exact R.bd q
      · rw [q]; exact R.bd (R.rd hj)
    · rw [q]; exact R.bd (R.rd hk)
theorem kd_6 (R : Rw c rows n) (hk : k < n) {d1 d2 d3 d4 : Int} {rs : List T} (h0 : 0 ≤ d4) (h1 : d4 < 3) : KindOk c I9_law_changed (ρ2 c rows n (.lst (.int 6 :: .int d1 :: .int d2 :: .int d3 :: .int d4 :: rs)) k j a bs) (cs0 c rows) := by
  have hm := R.rd hk
  have cr := c_row (c := c) R.hr (get_rD (R.sr hk))
  have ik : ixN ((List.range' 0 n).map W.pt).length (k : Int) = some k := gx_ix (by simpa using hk)
  have f8 := frz_lst (n := 7) cr
  have hlt : k < (cs0 c rows).length := (List.getElem?_eq_some_iff.mp cr).1
  have it : itemsT (.pt k) (cs0 c rows) = .ok ((rD rows k).map T.int) ((cs0 c rows).set k (.fz (.lst ((rD rows k).map T.int)))) := by simp only [itemsT, f8]
  have eC : C4_law_changed (ρ2 c rows n (.lst (.int 6 :: .int d1 :: .int d2 :: .int d3 :: .int d4 :: rs)) k j a bs) (cs0 c rows) = .ok (.cl (.lst (((rD rows k).map fun x => x + 1 + d4).map T.int))) ((cs0 c rows).set k (.fz (.lst ((rD rows k).map T.int)))) := by
    unfold C4_law_changed
    refine mlc_all T.int T.int _ (rD rows k) (by simp only [ρ2, ↓bindM, ev, el, it]) (lLim (by have := R.rl _ hm; omega)) fun x hx => ⟨_, rfl, ?_⟩
    have i4 : atI (T.int 6 :: T.int d1 :: T.int d2 :: T.int d3 :: T.int d4 :: rs) 4 = some (T.int d4) := by rw [show (4 : Int) = ((4 : Nat) : Int) from rfl, gx_nat]; rfl
    simp only [E4_law_changed, ρ2, ↓bindM, ev, ef, ↓reduceIte, el, i4]
  obtain ⟨cs', e', keep, _⟩ := frz_vv (m := 7) (vv_row (c := c) R.hr (get_rD (R.sr hk)))
  have e2 : cs' = (cs0 c rows).set k (.fz (.lst ((rD rows k).map T.int))) := by
    have := e'.symm.trans f8
    simp only [Option.some.injEq, Prod.mk.injEq] at this
    exact this.2
  subst e2
  have hq : ((cs0 c rows).set k (.fz (.lst ((rD rows k).map T.int))))[n]? = (cs0 c rows)[n]? := List.getElem?_set_ne (by omega)
  have ct := hq.trans (c_top R.hr)
  refine ⟨_, _, _, _, _, _, _, _, ?_, St.clean R (k := k) (ρ := ρ2 c rows n (.lst (.int 6 :: .int d1 :: .int d2 :: .int d3 :: .int d4 :: rs)) k j a bs) rfl rfl keep (List.getElem?_set_ne (by omega)) hq ((rD rows k).map fun x => x + 1 + d4), R.set1 ⟨by have := R.rl _ hm; simp; omega, fun x hx => ?_⟩, rfl⟩
  · simp only [ρ2] at eC
    simp only [I9_law_changed, ρ2, ↓bindM, ev, ef, ↓reduceIte, el, eC, ep, ct, ik]
  · obtain ⟨y, hy, rfl⟩ := List.mem_map.mp hx
    have := bnd_of R hm hy
    unfold Bnd; omega
theorem g_lt (hk : k < n) : ((List.range' (n + 1) n).map W.pt)[k]? = some (.pt (n + 1 + k)) := by
  rw [List.getElem?_map, List.getElem?_range' (by omega)]; simp
theorem kd_8 (R : Rw c rows n) (hk : k < n) : KindOk c I11_law_changed (ρ2 c rows n (.lst (.int 8 :: rest)) k j a bs) (cs0 c rows) := by
  have hkc : k < c.length := by have := R.hc; omega
  have cl := c_let (rows := rows) (n := n) R.hr (List.getElem?_eq_getElem hkc)
  have i0 : ixN (ltW c[k]).length 0 = some 0 := rfl
  have e0 : atI (ltW c[k]) 0 = some (W.cl (.int c[k].1)) := rfl
  have es : (ltW c[k]).set 0 (W.cl (.int ((c[k].1 : Int) + 1))) = ltW (c[k].1 + 1, c[k].2) := by simp [ltW, lt2]
  refine ⟨_, _, _, _, _, _, _, _, ?_, St.of (c := c.set k (c[k].1 + 1, c[k].2)) (ρ := ρ2 c rows n (.lst (.int 8 :: rest)) k j a bs) R.hr (by rw [List.length_set]; exact R.hc) rfl rfl, Cd.let1 R ⟨c[k], List.getElem_mem hkc, rfl, by simp⟩, rfl⟩
  have ct := c_lts (c := c) R.hr R.hc
  have f0 : ∀ cs : Cs, cs[n + 1 + k]? = some (.lst (ltW c[k])) → fIx (.pt (n + 1 + k)) (.cl (.int 0)) cs = .ok (.cl (.int c[k].1)) cs := fun cs h => by
    have := (ep.2.2.2.2.2.2.2.2.2.1) (n + 1 + k) 0 cs
    rw [this, h]
    rfl
  have f1 : ∀ ρ : G.Loc, fSet (.pt (n + 1 + k)) (.cl (.int 0)) (.cl (.int ((c[k].1 : Int) + 1))) (cs0 c rows) (.ok ρ (cs0 c rows)) = .ok ρ (cs0 (c.set k (c[k].1 + 1, c[k].2)) rows) := fun ρ => by
    simp only [ep, cl, i0, es, c_setl R.hr hkc]
  simp only [I11_law_changed, ρ2, ↓bindM, ev, ef, ↓reduceIte, el]
  have g4 : fIx (.pt (n + 1 + n)) (.cl (.int (k : Nat))) (cs0 c rows) = .ok (.pt (n + 1 + k)) (cs0 c rows) := by simp only [ep, ct, gx_nat, g_lt hk]
  simp only [g4, f0 _ cl, ef, f1]
theorem kd_7 (R : Rw c rows n) (hk : k < n) : KindOk c I10_law_changed (ρ2 c rows n (.lst (.int 7 :: rest)) k j a bs) (cs0 c rows) := by
  have hkc : k < c.length := by have := R.hc; omega
  have cl := c_let (rows := rows) (n := n) R.hr (List.getElem?_eq_getElem hkc)
  have i0 : ixN (ltW c[k]).length 0 = some 0 := rfl
  have em : (if (c[k].1 : Int) - 1 > 0 then (c[k].1 : Int) - 1 else 0) = ((c[k].1 - 1 : Nat) : Int) := by split <;> omega
  have es : (ltW c[k]).set 0 (W.cl (.int ((c[k].1 - 1 : Nat) : Int))) = ltW (c[k].1 - 1, c[k].2) := by simp [ltW, lt2]
  refine ⟨_, _, _, _, _, _, _, _, ?_, St.of (c := c.set k (c[k].1 - 1, c[k].2)) (ρ := ρ2 c rows n (.lst (.int 7 :: rest)) k j a bs) R.hr (by rw [List.length_set]; exact R.hc) rfl rfl, Cd.let1 R ⟨c[k], List.getElem_mem hkc, rfl, by simp; omega⟩, rfl⟩
  have ct := c_lts (c := c) R.hr R.hc
  have f0 : ∀ cs : Cs, cs[n + 1 + k]? = some (.lst (ltW c[k])) → fIx (.pt (n + 1 + k)) (.cl (.int 0)) cs = .ok (.cl (.int c[k].1)) cs := fun cs h => by
    have := (ep.2.2.2.2.2.2.2.2.2.1) (n + 1 + k) 0 cs
    rw [this, h]
    rfl
  have f1 : ∀ ρ : G.Loc, fSet (.pt (n + 1 + k)) (.cl (.int 0)) (.cl (.int ((c[k].1 - 1 : Nat) : Int))) (cs0 c rows) (.ok ρ (cs0 c rows)) = .ok ρ (cs0 (c.set k (c[k].1 - 1, c[k].2)) rows) := fun ρ => by
    simp only [ep, cl, i0, es, c_setl R.hr hkc]
  simp only [I10_law_changed, ρ2, ↓bindM, ev, ef, ↓reduceIte, el]
  have g4 : fIx (.pt (n + 1 + n)) (.cl (.int (k : Nat))) (cs0 c rows) = .ok (.pt (n + 1 + k)) (cs0 c rows) := by simp only [ep, ct, gx_nat, g_lt hk]
  simp only [g4, f0 _ cl, ef, em, f1]
theorem kd_5 (R : Rw c rows n) (hk : k < n) : KindOk c I8_law_changed (ρ2 c rows n (.lst (.int 5 :: rest)) k j a bs) (cs0 c rows) := by
  have ct := c_top (c := c) R.hr
  have v0 := vvs_rows (c := c) R.hr
  obtain ⟨cs1, e1, k1, n1⟩ := frzs_vv (m := 7) (vvs_cut v0 none (some (k : Int)))
  have nc : ∀ lo hi, W.pt n ∉ cutL ((List.range' 0 n).map W.pt) lo hi := fun lo hi h => pts_notin (j := n) (by omega) (cut_mem h)
  have ct1 := (n1 n (nc _ _)).trans ct
  obtain ⟨cs2, e2, k2, n2⟩ := frzs_vv (m := 7) (vvs_mono k1 (vvs_cut v0 (some ((k : Int) + 1)) none))
  have ncl : ∀ lo hi, W.pt (n + 1 + n) ∉ cutL ((List.range' 0 n).map W.pt) lo hi := fun lo hi h => pts_notin (j := n + 1 + n) (by omega) (cut_mem h)
  have ctl := (n2 _ (ncl _ _)).trans ((n1 _ (ncl _ _)).trans (c_lts R.hr R.hc))
  let rw' := cutL rows none (some (k : Int)) ++ cutL rows (some ((k : Int) + 1)) none
  have e1' : (cutL (rows.map rowL) none (some (k : Int))).map T.lst = (cutL rows none (some (k : Int))).map rowT := by rw [cut_map, rowT_L]
  have e2' : (cutL (rows.map rowL) (some ((k : Int) + 1)) none).map T.lst = (cutL rows (some ((k : Int) + 1)) none).map rowT := by rw [cut_map, rowT_L]
  rw [e1'] at e1
  rw [e2'] at e2
  have l1 := cut_le rows none (some (k : Int))
  have l2 := cut_le rows (some ((k : Int) + 1)) none
  have hr := R.hr
  have n59 := R.n59
  have al := fun cs => add_lt ((cutL rows none (some (k : Int))).map rowT) ((cutL rows (some ((k : Int) + 1)) none).map rowT) cs (by rw [List.length_map, List.length_map]; unfold LIM; omega)
  rw [← List.map_append] at al
  have sl1 : fSl false (.pt n) none (some (k : Int)) (cs0 c rows) = .ok (.cl (.lst ((cutL rows none (some (k : Int))).map rowT))) cs1 := by rw [sl_pt, ct]; simp only [lstOf, newL, e1, Bool.false_eq_true, if_false]
  have sl2 : fSl false (.pt n) (some ((k : Int) + 1)) none cs1 = .ok (.cl (.lst ((cutL rows (some ((k : Int) + 1)) none).map rowT))) cs2 := by rw [sl_pt, ct1]; simp only [lstOf, newL, e2, Bool.false_eq_true, if_false]
  have hlt := (List.getElem?_eq_some_iff.mp ctl).1
  have mo : ∀ w ts, Vv cs2 w ts → Vv (cs2 ++ [Cell.lst ((rw'.map rowT).map W.cl)]) w ts := fun w ts h => by
    rcases h with rfl | ⟨i, rfl, h | h⟩
    · exact .inl rfl
    · exact .inr ⟨i, rfl, .inl (snocg h)⟩
    · exact .inr ⟨i, rfl, .inr (snocg h)⟩
  have vc : Vvs (cs2 ++ [Cell.lst ((rw'.map rowT).map W.cl)]) ((rw'.map rowT).map W.cl) (rw'.map rowL) := by
    have e : (rw'.map rowT).map W.cl = (rw'.map rowL).map fun ts => W.cl (.lst ts) := by rw [List.map_map, List.map_map]; rfl
    have h := vvs_cl (cs := cs2 ++ [Cell.lst ((rw'.map rowT).map W.cl)]) (rw'.map rowL)
    rw [← e] at h
    exact h
  refine ⟨[some (.cl (.lst (c.map ltT))), some (.cl (.tup (rows.map bT))), some (.cl (.lst (.int 5 :: rest))), some (.pt cs2.length), some (.pt (n + 1 + n)), some (.cl (.lst (bs.map natT))), some (.cl (.int k)), some (.cl (.int j)), some (.pt k), some (.cl (.int a)), none, none, none], _, c, rw', n + 1 + n, cs2.length, _, _, ?_, ⟨rfl, rfl, snocg ctl, List.getElem?_concat_length, vvs_mono mo (vvs_mono k2 (vvs_mono k1 (vvs_lets R.hr R.hc))), vc, by omega, pts_notin (by omega), pts_notin (by omega), (fun h => by rw [List.map_map] at h; obtain ⟨x, _, e⟩ := List.mem_map.mp h; cases e), (fun h => by rw [List.map_map] at h; obtain ⟨x, _, e⟩ := List.mem_map.mp h; cases e)⟩, Cd.same R (by
      show (cutL rows none (some (k : Int)) ++ cutL rows (some ((k : Int) + 1)) none).length ≤ 60
      rw [List.length_append]
      have q1 : (cutL rows none (some (k : Int))).length ≤ k := by
        unfold cutL
        rw [List.length_take]
        have : HT.sIx rows.length rows.length (some (k : Int)) ≤ k := by
          unfold HT.sIx
          simp only []
          split <;> omega
        omega
      have q2 : (cutL rows (some ((k : Int) + 1)) none).length ≤ rows.length - k := by
        unfold cutL
        rw [List.length_take, List.length_drop]
        have : min k rows.length ≤ HT.sIx rows.length 0 (some ((k : Int) + 1)) := by
          unfold HT.sIx
          simp only []
          split <;> omega
        omega
      omega) fun r hr' => ?_, rfl⟩
  · simp only [I8_law_changed, ρ2, ↓bindM, ev, ↓reduceIte, el, ef, sl1, sl2, al]
    rfl
  · rcases List.mem_append.mp hr' with h | h
    · exact R.bd (cut_mem h)
    · exact R.bd (cut_mem h)
end
end My

namespace My
open PySem L2 G
theorem sIf_ (c : MB) (a b : MS) (ρ : G.Loc) (cs : Cs) : sIf c a b ρ cs = (c ρ cs).bind fun t cs1 => if t = true then a ρ cs1 else b ρ cs1 := rfl
theorem sSeq_ (a b : MS) (ρ : G.Loc) (cs : Cs) : sSeq a b ρ cs = (a ρ cs).bind fun f cs1 => match f with | Fl.nx ρ' => b ρ' cs1 | f => R.ok f cs1 := rfl
theorem sAsg_ (m : ME) (g : MG) (ρ : G.Loc) (cs : Cs) : sAsg m g ρ cs = (m ρ cs).bind fun w cs1 => (g w ρ cs1).bind fun ρ' cs2 => R.ok (Fl.nx ρ') cs2 := rfl
theorem mgName_ (i : Nat) (w : W) (ρ : G.Loc) (cs : Cs) : mgName i w ρ cs = R.ok (ρ.set i (some w)) cs := rfl
theorem sRet_ (m : ME) (ρ : G.Loc) (cs : Cs) : sRet m ρ cs = (m ρ cs).bind fun w cs1 => R.ok (Fl.rt w) cs1 := rfl
theorem mTst_ (m : ME) (ρ : G.Loc) (cs : Cs) : mTst m ρ cs = (m ρ cs).bind fun x cs1 => match x with | W.cl (T.bl b) => R.ok b cs1 | _ => R.no := rfl
theorem mOp_ (f : W → W → Cs → R W) (a b : ME) (ρ : G.Loc) (cs : Cs) : mOp f a b ρ cs = (a ρ cs).bind fun x cs1 => (b ρ cs1).bind fun y cs2 => f x y cs2 := rfl
theorem mVar_ (i : Nat) (ρ : G.Loc) (cs : Cs) : mVar i ρ cs = match ρ[i]? with | some (some w) => R.ok w cs | _ => R.no := rfl
theorem mC_ (t : T) (ρ : G.Loc) (cs : Cs) : mC t ρ cs = R.ok (W.cl t) cs := rfl
section
variable {c : List Ltr} {rows : List (List Int)} {n k j a : Nat} {bs : List Nat} {rest : List T}
theorem vv_at {cs cs' : Cs} {w : W} {ts : List T} (h : Vv cs w ts) (e : ∀ i, w = .pt i → ∀ x, cs[i]? = some x → cs'[i]? = some x) : Vv cs' w ts := by
  rcases h with rfl | ⟨i, rfl, h | h⟩
  · exact .inl rfl
  · exact .inr ⟨i, rfl, .inl (e i rfl _ h)⟩
  · exact .inr ⟨i, rfl, .inr (e i rfl _ h)⟩
theorem vvs_at {cs cs' : Cs} {ws : List W} {tss : List (List T)} (h : Vvs cs ws tss) (e : ∀ i, W.pt i ∈ ws → ∀ x, cs[i]? = some x → cs'[i]? = some x) : Vvs cs' ws tss :=
  ⟨h.1, fun i w ts h1 h2 => vv_at (h.2 i w ts h1 h2) fun m hm => e m (by rw [← hm]; exact List.mem_of_getElem? h1)⟩
theorem kd_9 (R : Rw c rows n) (hk : k < n) : KindOk c I12_law_changed (ρ2 c rows n (.lst (.int 9 :: rest)) k j a bs) (cs0 c rows) := by
  obtain ⟨cs1, e1, k1, n1⟩ := frz_top (m := 6) (c_top (c := c) R.hr) (vvs_rows R.hr) (pts_notin (by omega))
  rw [rowT_L] at e1
  have it : itemsT (.pt n) (cs0 c rows) = .ok (rows.map rowT) cs1 := by simp only [itemsT, e1]
  let rw' := rows.map fun r => r.map fun x => x + 1
  have eC : C6_law_changed (ρ2 c rows n (.lst (.int 9 :: rest)) k j a bs) (cs0 c rows) = .ok (.pt (cs1.length + n)) (cs1 ++ (rows.map fun r => Cell.lst (digW (r.map fun x => x + 1))) ++ [.lst ((List.range' cs1.length n).map W.pt)]) := by
    have h := mlc_mk (vs := [10]) (mi := mSeq (mVar 3)) (mg := mgName 10) (me := E6_law_changed) (ρ := ρ2 c rows n (.lst (.int 9 :: rest)) k j a bs) (cs := cs0 c rows) (cs1 := cs1) rowT (fun r => digW (r.map fun x => x + 1)) rows (by simp only [ρ2, ↓bindM, ev, el, it]) (lLim (by have := R.hr; have := R.n59; omega)) fun r hr cs => ⟨_, rfl, by
      unfold E6_law_changed C5_law_changed
      have := mlc_allO (vs := [12]) (mi := mSeq (mVar 10)) (mg := mgName 12) (me := E5_law_changed) (ρ := (wipeL (ρ2 c rows n (.lst (.int 9 :: rest)) k j a bs) [10]).set 10 (some (W.cl (rowT r)))) (cs := cs) (cs1 := cs) T.int T.int (fun x => x + 1) r (by simp only [ρ2, rowT, ↓bindM, ev, ef, el]) (lLim (by have := R.rl r hr; omega)) fun x hx => ⟨_, rfl, by simp only [E5_law_changed, ρ2, ↓bindM, ev, ef, ↓reduceIte, el]⟩
      rw [this]; rfl⟩
    unfold C6_law_changed
    rw [h, R.hr]
  simp only [ρ2] at eC
  have sn : ∀ {i : Nat} {x : Cell}, cs1[i]? = some x → (cs1 ++ (rows.map fun r => Cell.lst (digW (r.map fun x => x + 1))) ++ [Cell.lst ((List.range' cs1.length n).map W.pt)])[i]? = some x := fun {i x} h => snocg (by rw [List.getElem?_append_left (List.getElem?_eq_some_iff.mp h).1]; exact h)
  have nl : W.pt n ∉ (List.range' (n + 1) n).map W.pt := pts_notin (by omega)
  have cl1 : cs1[n + 1 + n]? = some (.lst ((List.range' (n + 1) n).map W.pt)) := (n1 _ (by omega) (pts_notin (by omega))).trans (c_lts R.hr R.hc)
  have lt := (List.getElem?_eq_some_iff.mp cl1).1
  refine ⟨[some (.cl (.lst (c.map ltT))), some (.cl (.tup (rows.map bT))), some (.cl (.lst (.int 9 :: rest))), some (.pt (cs1.length + n)), some (.pt (n + 1 + n)), some (.cl (.lst (bs.map natT))), some (.cl (.int k)), some (.cl (.int j)), some (.pt k), some (.cl (.int a)), none, none, none], _, c, rw', n + 1 + n, cs1.length + n, (List.range' (n + 1) n).map W.pt, (List.range' cs1.length n).map W.pt, ?_, ⟨rfl, rfl, sn cl1, ?_, ?_, ?_, by omega, pts_notin (by omega), pts_notin (by omega), pts_notin (by omega), pts_notin (by omega)⟩, Cd.same R (by have := R.hr; have := R.n59; simp [rw']; omega) fun r hr => ?_, rfl⟩
  · simp only [I12_law_changed, ρ2, ↓bindM, ev, ef, ↓reduceIte, el, eC]
  · rw [List.getElem?_append_right (by simp [R.hr])]; simp [R.hr]
  · refine vvs_at ⟨(vvs_lets R.hr R.hc).1, fun i w ts h1 h2 => k1 w ts (fun e => nl (by rw [← e]; exact List.mem_of_getElem? h1)) ((vvs_lets R.hr R.hc).2 i w ts h1 h2)⟩ fun i _ x h => sn h
  · refine vvs_pts (by simp [rw', R.hr]) fun i ts h => ?_
    rw [List.getElem?_map, List.getElem?_map] at h
    cases hr : rows[i]? with
    | none => rw [hr] at h; cases h
    | some r =>
      rw [hr] at h; cases h
      have hi := (List.getElem?_eq_some_iff.mp hr).1
      refine .inr ⟨_, rfl, .inl ?_⟩
      rw [List.getElem?_append_left (by simp; omega), List.getElem?_append_right (by omega), Nat.add_sub_cancel_left, List.getElem?_map, hr]
      rfl
  · obtain ⟨r0, h0, rfl⟩ := List.mem_map.mp hr
    refine ⟨by have := R.rl r0 h0; simp; omega, fun x hx => ?_⟩
    obtain ⟨y, hy, rfl⟩ := List.mem_map.mp hx
    have := bnd_of R h0 hy
    unfold Bnd; omega
theorem kd_13 (R : Rw c rows n) (hk : k < n) : KindOk c I15_law_changed (ρ2 c rows n (.lst (.int 13 :: rest)) k j a bs) (cs0 c rows) := by
  have hkc : k < c.length := by have := R.hc; omega
  have hm := R.rd hk
  have cl := c_let (rows := rows) (n := n) R.hr (List.getElem?_eq_getElem hkc)
  have cr := c_row (c := c) R.hr (get_rD (R.sr hk))
  have ct := c_top (c := c) R.hr
  have cs_ := c_lts (c := c) R.hr R.hc
  have L0 := c_len (c := c) (rows := rows) R.hr R.hc
  have n59 := R.n59
  generalize hl : c[k] = l at cl
  generalize hr : rD rows k = r at cr hm
  let lw := (List.range' (n + 1) n).map W.pt ++ [W.pt (n + 1 + n + 1)]
  let bw := (List.range' 0 n).map W.pt ++ [W.pt (n + 1 + n + 2)]
  let cs1 := cs0 c rows ++ [Cell.lst (ltW l)]
  let cs2 := cs1.set (n + 1 + n) (.lst lw)
  let cs3 := cs2 ++ [Cell.lst (digW r)]
  let cs4 := cs3.set n (.lst bw)
  have g1 : ∀ {i : Nat} {x : Cell}, i ≠ n + 1 + n → i ≠ n → (cs0 c rows)[i]? = some x → cs4[i]? = some x := fun {i x} a b h => by
    show ((((cs0 c rows ++ [Cell.lst (ltW l)]).set (n + 1 + n) (.lst lw)) ++ [Cell.lst (digW r)]).set n (.lst bw))[i]? = some x
    rw [List.getElem?_set_ne (Ne.symm b)]
    refine snocg ?_
    rw [List.getElem?_set_ne (Ne.symm a)]
    exact snocg h
  have l1 : cs1.length = n + 1 + n + 2 := by show (cs0 c rows ++ [_]).length = _; rw [List.length_append, L0]; rfl
  have l2 : cs2.length = n + 1 + n + 2 := by show (cs1.set _ _).length = _; rw [List.length_set, l1]
  have ct1 : cs1[n + 1 + n]? = some (.lst ((List.range' (n + 1) n).map W.pt)) := snocg cs_
  have ct2 : cs2[n]? = some (.lst ((List.range' 0 n).map W.pt)) := by
    show (cs1.set _ _)[n]? = _
    rw [List.getElem?_set_ne (by omega)]; exact snocg ct
  have cr2 : cs2[k]? = some (.lst (digW r)) := by
    show (cs1.set _ _)[k]? = _
    rw [List.getElem?_set_ne (by omega)]; exact snocg cr
  have ct3 : cs3[n]? = some (.lst ((List.range' 0 n).map W.pt)) := snocg ct2
  have dl : decide ((List.range' (n + 1) n).length < LIM) = true := decide_eq_true (by simp; unfold LIM; omega)
  have lim1 : ((List.range' (n + 1) n).map W.pt).length < LIM := by simp; unfold LIM; omega
  have lim2' : ((List.range' 0 n).map W.pt).length < LIM := by simp; unfold LIM; omega
  have f4 : fIx (.pt (n + 1 + n)) (.cl (.int (k : Nat))) (cs0 c rows) = .ok (.pt (n + 1 + k)) (cs0 c rows) := by simp only [ep, cs_, gx_nat, g_lt hk]
  have fl1 : fList true [.pt (n + 1 + k)] (cs0 c rows) = .ok (.pt (n + 1 + n + 1)) cs1 := by simp only [ep, cl, newL, if_true, L0]; rfl
  have fa1 : fAppend (.pt (n + 1 + n)) [.pt (n + 1 + n + 1)] cs1 = .ok (.cl .non) cs2 := by simp only [ep, ct1, lim1, if_true]; rfl
  have fl2 : fList true [.pt k] cs2 = .ok (.pt (n + 1 + n + 2)) cs3 := by simp only [ep, cr2, newL, if_true, l2]; rfl
  have fa2 : fAppend (.pt n) [.pt (n + 1 + n + 2)] cs3 = .ok (.cl .non) cs4 := by simp only [ep, ct3, lim2', if_true]; rfl
  have ty1 : isTy "list" (cs0 c rows) (.pt (n + 1 + n)) = true := by simp only [ep, cs_]
  have ty2 : isTy "list" cs2 (.pt n) = true := by simp only [ep, ct2]
  have c4p : cs4[n + 1 + n]? = some (.lst lw) := by
    show (cs3.set n _)[n + 1 + n]? = _
    rw [List.getElem?_set_ne (by omega)]
    exact snocg (List.getElem?_set_self (by omega))
  have c4q : cs4[n]? = some (.lst bw) := List.getElem?_set_self (List.getElem?_eq_some_iff.mp ct3).1
  have cL : cs4[n + 1 + n + 1]? = some (.lst (ltW l)) := by
    show (cs3.set n _)[n + 1 + n + 1]? = _
    rw [List.getElem?_set_ne (by omega)]
    refine snocg ?_
    show (cs1.set _ _)[n + 1 + n + 1]? = _
    rw [List.getElem?_set_ne (by omega)]
    show (cs0 c rows ++ [_])[n + 1 + n + 1]? = _
    rw [List.getElem?_append_right (by omega), L0]; simp
  have cR : cs4[n + 1 + n + 2]? = some (.lst (digW r)) := by
    show (cs3.set n _)[n + 1 + n + 2]? = _
    rw [List.getElem?_set_ne (by omega)]
    show (cs2 ++ [_])[n + 1 + n + 2]? = _
    rw [List.getElem?_append_right (by omega), l2]; simp
  have ptm : ∀ {s m i : Nat}, W.pt i ∈ (List.range' s m).map W.pt → s ≤ i ∧ i < s + m := fun {s m i} h => by
    obtain ⟨x, hx, e⟩ := List.mem_map.mp h
    cases e
    have := List.mem_range'.mp hx
    omega
  have vl : Vvs cs4 lw ((c ++ [l]).map lt2) := by
    rw [List.map_append]
    refine vvs_snoc (vvs_at (vvs_lets R.hr R.hc) fun i hi x h => ?_) (.inr ⟨_, rfl, .inl cL⟩)
    have := ptm hi
    exact g1 (by omega) (by omega) h
  have vb : Vvs cs4 bw ((rows ++ [r]).map rowL) := by
    rw [List.map_append]
    refine vvs_snoc (vvs_at (vvs_rows (c := c) R.hr) fun i hi x h => ?_) (.inr ⟨_, rfl, .inl cR⟩)
    have := ptm hi
    exact g1 (by omega) (by omega) h
  have nin : ∀ {s m i z : Nat}, (i < s ∨ s + m ≤ i) → i ≠ z → W.pt i ∉ (List.range' s m).map W.pt ++ [W.pt z] := fun {s m i z} h1 h2 hm => by
    rcases List.mem_append.mp hm with h | h
    · have := ptm h; omega
    · have : W.pt i = W.pt z := by simpa using h
      injection this with e; exact h2 e
  refine ⟨ρ2 c rows n (.lst (.int 13 :: rest)) k j a bs, cs4, c ++ [l], rows ++ [r], n + 1 + n, n, lw, bw, ?_, ⟨rfl, rfl, c4p, c4q, vl, vb, by omega, nin (by omega) (by omega), nin (by omega) (by omega), nin (by omega) (by omega), nin (by omega) (by omega)⟩, ⟨by have := R.hc; simp; omega, fun x hx => ?_, by have := R.hr; simp; omega, fun x hx => ?_⟩, rfl⟩
  · simp only [I15_law_changed, ρ2, ↓bindM, ev, ef, ↓reduceIte, el, ty1, f4, fl1, fa1, ty2, fl2, fa2]
  · rcases List.mem_append.mp hx with h | h
    · exact ⟨x, h, rfl, by omega⟩
    · have : x = l := by simpa using h
      subst this
      exact ⟨x, by rw [← hl]; exact List.getElem_mem hkc, rfl, by omega⟩
  · rcases List.mem_append.mp hx with h | h
    · exact R.bd h
    · have : x = r := by simpa using h
      subst this
      exact R.bd hm
/-- letters and more beats, as they are -/
theorem more_beats (R : Rw c rows n) {ρ : G.Loc} (h4 : ρ[4]? = some (some (.pt (n + 1 + n)))) (h3 : ρ[3]? = some (some (.pt n))) {me : ME} {us : List (List Int)} (hu : us.length ≤ 1) (hm : ∀ cs, me ρ cs = .ok (.cl (.lst (us.map rowT))) cs) :
    ∃ cs', mLst false (mCons (mVar 4) (mCons (mOp (fAdd false) (mVar 3) me) mNil)) ρ (cs0 c rows) = .ok (.cl (.lst [.lst (c.map hT2), .lst ((rows ++ us).map rowT)])) cs' := by
  have ct := c_top (c := c) R.hr
  have vb : Vvs (cs0 c rows) ((List.range' 0 n).map W.pt ++ (us.map rowT).map W.cl) ((rows ++ us).map rowL) := by
    rw [List.map_append]
    have v0 := vvs_rows (c := c) R.hr
    cases us with
    | nil => simpa using v0
    | cons u us =>
      have : us = [] := List.eq_nil_of_length_eq_zero (by simpa using hu)
      subst this
      exact vvs_snoc v0 (.inl rfl)
  have nc : ∀ m, n ≤ m → W.pt m ∉ (List.range' 0 n).map W.pt ++ (us.map rowT).map W.cl := fun m hm h => by
    rcases List.mem_append.mp h with h | h
    · exact pts_notin (j := m) (by omega) h
    · obtain ⟨x, _, e⟩ := List.mem_map.mp h; cases e
  obtain ⟨cs1, e1, k1, n1⟩ := frzs_vv (m := 7) vb
  rw [rowT_L] at e1
  have ctl := (n1 _ (nc _ (by omega))).trans (c_lts R.hr R.hc)
  obtain ⟨cs2, e2, _, _⟩ := frz_top (m := 6) ctl (vvs_mono k1 (vvs_lets R.hr R.hc)) (pts_notin (by omega))
  rw [hT2_L] at e2
  have lim : (n + us.length ≤ LIM) = True := lims' (by have := R.n59; omega)
  have fa : fAdd false (.pt n) (.cl (.lst (us.map rowT))) (cs0 c rows) = .ok (.cl (.lst ((rows ++ us).map rowT))) cs1 := by
    rw [add_pt, ct]
    simp only [lstOf, List.length_map, List.length_range', lim, if_true, newL, e1, Bool.false_eq_true, if_false]
  have fz : frzs (frz 8) [W.pt (n + 1 + n), .cl (.lst ((rows ++ us).map rowT))] cs1 = some ([.lst (c.map hT2), .lst ((rows ++ us).map rowT)], cs2) := by
    simp only [frzs, e2, frz_cl]
  refine ⟨cs2, ?_⟩
  simp only [↓bindM, ev, h4, h3, hm, fa, el, lim2, ↓reduceIte, ef, fz]
theorem Cd.more (R : Rw c rows n) {us : List (List Int)} (hu : us.length ≤ 1) (h : ∀ r ∈ us, r.length ≤ 3000 ∧ ∀ x ∈ r, Bnd x) : Cd c c (rows ++ us) :=
  Cd.same R (by have := R.hr; have := R.n59; rw [List.length_append]; omega) fun r hr => by
    rcases List.mem_append.mp hr with q | q
    · exact R.bd q
    · exact h r q
theorem kd_12 (R : Rw c rows n) : ∃ c' rows' cs', I1_law_changed (ρ1 c rows n (.lst (.int 12 :: rest))) (cs0 c rows) = .ok (.rt (.cl (.lst [.lst (c'.map hT2), .lst (rows'.map rowT)]))) cs' ∧ Cd c c' rows' := by
  obtain ⟨cs', e⟩ := more_beats R (ρ := ρ1 c rows n (.lst (.int 12 :: rest))) rfl rfl (me := mLst false (mCons (mLst false mNil) mNil)) (us := [[]]) (by simp) (fun cs => by
    simp only [↓bindM, ev, ef, el, show ((0 + 1 : Nat) ≤ LIM) = True from lims' (by omega), show ((0 : Nat) ≤ LIM) = True from lims' (by omega), ↓reduceIte]; rfl)
  refine ⟨c, rows ++ [[]], cs', ?_, Cd.more R (by simp) fun r hr => ?_⟩
  · simp only [ρ1] at e
    simp only [I1_law_changed, ρ1, ↓bindM, sIf_, sRet_, mTst_, mOp_, mVar_, mC_, ef, el, ↓reduceIte, e]
  · have : r = [] := by simpa using hr
    subst this
    exact ⟨by simp, fun x hx => nomatch hx⟩
theorem kd_none (R : Rw c rows n) {q : Int} : ∃ c' rows' cs', I2_law_changed ((ρ1 c rows n (.lst (.int q :: rest))).set 5 (some (.cl (.lst [])))) (cs0 c rows) = .ok (.rt (.cl (.lst [.lst (c'.map hT2), .lst (rows'.map rowT)]))) cs' ∧ Cd c c' rows' := by
  obtain ⟨us, hu, hub, em⟩ : ∃ us : List (List Int), us.length ≤ 1 ∧ (∀ r ∈ us, r.length ≤ 3000 ∧ ∀ x ∈ r, Bnd x) ∧ ∀ cs, (mOp (fMul false) (mLst false (mCons (mLst false (mCons (mC (.int 0)) mNil)) mNil)) (mCall fInt (mCons (mOp fEq (mOp fMod (mOp fIx (mVar 2) (mC (.int 0))) (mC (.int 2))) (mC (.int 0))) mNil))) ((ρ1 c rows n (.lst (.int q :: rest))).set 5 (some (.cl (.lst [])))) cs = .ok (.cl (.lst (us.map rowT))) cs := by
    have fb : ∀ b cs, fInt [W.cl (.bl b)] cs = .ok (.cl (.int (if b then 1 else 0))) cs := fun _ _ => rfl
    have z2 : (0 : Int) < 2 := by decide
    have o1 : ((0 + 1 : Nat) ≤ LIM) = True := lims' (by omega)
    by_cases h : q % 2 = 0
    · have d : decide (q % 2 = 0) = true := decide_eq_true h
      have m1 : ∀ cs, fMul false (W.cl (.lst [.lst [.int 0]])) (W.cl (.int 1)) cs = .ok (.cl (.lst [.lst [.int 0]])) cs := fun _ => rfl
      refine ⟨[[0]], by simp, fun r hr => ?_, fun cs => ?_⟩
      · have : r = [0] := by simpa using hr
        subst this
        exact ⟨by simp, fun x hx => by have : x = 0 := by simpa using hx
                                       subst this; unfold Bnd; omega⟩
      · simp only [ρ1, ↓bindM, ev, ef, ↓reduceIte, el, z2, d, fb, o1, m1]; rfl
    · have d : decide (q % 2 = 0) = false := decide_eq_false h
      have m1 : ∀ cs, fMul false (W.cl (.lst [.lst [.int 0]])) (W.cl (.int 0)) cs = .ok (.cl (.lst [])) cs := fun _ => rfl
      refine ⟨[], by simp, (fun r hr => nomatch hr), fun cs => ?_⟩
      simp only [ρ1, ↓bindM, ev, ef, ↓reduceIte, el, z2, d, fb, o1, m1, Bool.false_eq_true]
  obtain ⟨cs', e⟩ := more_beats R (ρ := (ρ1 c rows n (.lst (.int q :: rest))).set 5 (some (.cl (.lst [])))) rfl rfl hu em
  refine ⟨c, rows ++ us, cs', ?_, Cd.more R hu hub⟩
  unfold I2_law_changed
  simp only [sIf_, sRet_]
  have t : (mTst (mOp fEq (mCall fLen (mCons (mVar 5) mNil)) (mC (.int 0)))) ((ρ1 c rows n (.lst (.int q :: rest))).set 5 (some (.cl (.lst [])))) (cs0 c rows) = .ok true (cs0 c rows) := by
    have d0 : decide (((0 : Nat) : Int) = 0) = true := by decide
    simp only [ρ1, ↓bindM, ev, ef, ↓reduceIte, el, d0]
  rw [t, G.R.bind_ok, if_pos rfl, e]
  rfl
end
end My

namespace My
open PySem L2 G
section
variable {c : List Ltr} {rows : List (List Int)} {n k j a : Nat} {bs : List Nat} {rest : List T}
/-- behind the picks -/
def Tail : MS := (sSeq I3_law_changed (sSeq I4_law_changed (sSeq I5_law_changed (sSeq I6_law_changed (sSeq I7_law_changed (sSeq I8_law_changed (sSeq I9_law_changed (sSeq I10_law_changed (sSeq I11_law_changed (sSeq I12_law_changed (sSeq I13_law_changed (sSeq I14_law_changed (sSeq I15_law_changed (sSeq I16_law_changed (sRet (mLst false (mCons (mVar 4) (mCons (mVar 3) mNil))))))))))))))))))
def TailOk (c : List Ltr) (ρ : G.Loc) (cs : Cs) : Prop := ∃ c' rows' cs', Tail ρ cs = .ok (.rt (.cl (.lst [.lst (c'.map hT2), .lst (rows'.map rowT)]))) cs' ∧ Cd c c' rows'
theorem tl_0 (R : Rw c rows n) (hk : k < n) (hj : j < n) (ha : a < (rD rows k).length) : TailOk c (ρ2 c rows n (.lst (.int 0 :: rest)) k j a bs) (cs0 c rows) := by
  obtain ⟨ρ', cs', c', rows', p, q, lw, bw, e, hS, hC, h2⟩ := kd_0 R hk ha (rest := rest) (c := c) (j := j) (a := a) (bs := bs)
  obtain ⟨cs2, er⟩ := hS.ret
  have s1 := sk_1 (ρ := ρ') (cs := cs') (q := 0) h2 (by decide)
  have s2 := sk_2 (ρ := ρ') (cs := cs') (q := 0) h2 (by decide)
  have s3 := sk_3 (ρ := ρ') (cs := cs') (q := 0) h2 (by decide)
  have s4 := sk_4 (ρ := ρ') (cs := cs') (q := 0) h2 (by decide)
  have s5 := sk_5 (ρ := ρ') (cs := cs') (q := 0) h2 (by decide)
  have s6 := sk_6 (ρ := ρ') (cs := cs') (q := 0) h2 (by decide)
  have s7 := sk_7 (ρ := ρ') (cs := cs') (q := 0) h2 (by decide)
  have s8 := sk_8 (ρ := ρ') (cs := cs') (q := 0) h2 (by decide)
  have s9 := sk_9 (ρ := ρ') (cs := cs') (q := 0) h2 (by decide)
  have s10 := sk_10 (ρ := ρ') (cs := cs') (q := 0) h2 (by decide)
  have s11 := sk_11 (ρ := ρ') (cs := cs') (q := 0) h2 (by decide)
  have s13 := sk_13 (ρ := ρ') (cs := cs') (q := 0) h2 (by decide)
  have s14 := sk_14 (ρ := ρ') (cs := cs') (q := 0) h2 (by decide)
  refine ⟨c', rows', cs2, ?_, hC⟩
  simp only [Tail, sSeq_, sRet_, ↓bindM, e, er, s1, s2, s3, s4, s5, s6, s7, s8, s9, s10, s11, s13, s14]
theorem tl_1 (R : Rw c rows n) (hk : k < n) (hj : j < n) (ha : a < (rD rows k).length) : TailOk c (ρ2 c rows n (.lst (.int 1 :: rest)) k j a bs) (cs0 c rows) := by
  obtain ⟨ρ', cs', c', rows', p, q, lw, bw, e, hS, hC, h2⟩ := kd_1 R hk ha (rest := rest) (c := c) (j := j) (a := a) (bs := bs)
  obtain ⟨cs2, er⟩ := hS.ret
  have s0 := sk_0 (ρ := ρ2 c rows n (.lst (.int 1 :: rest)) k j a bs) (cs := cs0 c rows) (q := 1) rfl (by decide)
  have s2 := sk_2 (ρ := ρ') (cs := cs') (q := 1) h2 (by decide)
  have s3 := sk_3 (ρ := ρ') (cs := cs') (q := 1) h2 (by decide)
  have s4 := sk_4 (ρ := ρ') (cs := cs') (q := 1) h2 (by decide)
  have s5 := sk_5 (ρ := ρ') (cs := cs') (q := 1) h2 (by decide)
  have s6 := sk_6 (ρ := ρ') (cs := cs') (q := 1) h2 (by decide)
  have s7 := sk_7 (ρ := ρ') (cs := cs') (q := 1) h2 (by decide)
  have s8 := sk_8 (ρ := ρ') (cs := cs') (q := 1) h2 (by decide)
  have s9 := sk_9 (ρ := ρ') (cs := cs') (q := 1) h2 (by decide)
  have s10 := sk_10 (ρ := ρ') (cs := cs') (q := 1) h2 (by decide)
  have s11 := sk_11 (ρ := ρ') (cs := cs') (q := 1) h2 (by decide)
  have s13 := sk_13 (ρ := ρ') (cs := cs') (q := 1) h2 (by decide)
  have s14 := sk_14 (ρ := ρ') (cs := cs') (q := 1) h2 (by decide)
  refine ⟨c', rows', cs2, ?_, hC⟩
  simp only [Tail, sSeq_, sRet_, ↓bindM, e, er, s0, s2, s3, s4, s5, s6, s7, s8, s9, s10, s11, s13, s14]
theorem tl_2 (R : Rw c rows n) (hk : k < n) (hj : j < n) (ha : a < (rD rows k).length) : TailOk c (ρ2 c rows n (.lst (.int 2 :: rest)) k j a bs) (cs0 c rows) := by
  obtain ⟨ρ', cs', c', rows', p, q, lw, bw, e, hS, hC, h2⟩ := kd_2 R hk hj (rest := rest) (c := c) (j := j) (a := a) (bs := bs)
  obtain ⟨cs2, er⟩ := hS.ret
  have s0 := sk_0 (ρ := ρ2 c rows n (.lst (.int 2 :: rest)) k j a bs) (cs := cs0 c rows) (q := 2) rfl (by decide)
  have s1 := sk_1 (ρ := ρ2 c rows n (.lst (.int 2 :: rest)) k j a bs) (cs := cs0 c rows) (q := 2) rfl (by decide)
  have s3 := sk_3 (ρ := ρ') (cs := cs') (q := 2) h2 (by decide)
  have s4 := sk_4 (ρ := ρ') (cs := cs') (q := 2) h2 (by decide)
  have s5 := sk_5 (ρ := ρ') (cs := cs') (q := 2) h2 (by decide)
  have s6 := sk_6 (ρ := ρ') (cs := cs') (q := 2) h2 (by decide)
  have s7 := sk_7 (ρ := ρ') (cs := cs') (q := 2) h2 (by decide)
  have s8 := sk_8 (ρ := ρ') (cs := cs') (q := 2) h2 (by decide)
  have s9 := sk_9 (ρ := ρ') (cs := cs') (q := 2) h2 (by decide)
  have s10 := sk_10 (ρ := ρ') (cs := cs') (q := 2) h2 (by decide)
  have s11 := sk_11 (ρ := ρ') (cs := cs') (q := 2) h2 (by decide)
  have s13 := sk_13 (ρ := ρ') (cs := cs') (q := 2) h2 (by decide)
  have s14 := sk_14 (ρ := ρ') (cs := cs') (q := 2) h2 (by decide)
  refine ⟨c', rows', cs2, ?_, hC⟩
  simp only [Tail, sSeq_, sRet_, ↓bindM, e, er, s0, s1, s3, s4, s5, s6, s7, s8, s9, s10, s11, s13, s14]
theorem tl_3 (R : Rw c rows n) (hk : k < n) (hj : j < n) (ha : a < (rD rows k).length) : TailOk c (ρ2 c rows n (.lst (.int 3 :: rest)) k j a bs) (cs0 c rows) := by
  obtain ⟨ρ', cs', c', rows', p, q, lw, bw, e, hS, hC, h2⟩ := kd_3 R hk ha (rest := rest) (c := c) (j := j) (a := a) (bs := bs)
  obtain ⟨cs2, er⟩ := hS.ret
  have s0 := sk_0 (ρ := ρ2 c rows n (.lst (.int 3 :: rest)) k j a bs) (cs := cs0 c rows) (q := 3) rfl (by decide)
  have s1 := sk_1 (ρ := ρ2 c rows n (.lst (.int 3 :: rest)) k j a bs) (cs := cs0 c rows) (q := 3) rfl (by decide)
  have s2 := sk_2 (ρ := ρ2 c rows n (.lst (.int 3 :: rest)) k j a bs) (cs := cs0 c rows) (q := 3) rfl (by decide)
  have s4 := sk_4 (ρ := ρ') (cs := cs') (q := 3) h2 (by decide)
  have s5 := sk_5 (ρ := ρ') (cs := cs') (q := 3) h2 (by decide)
  have s6 := sk_6 (ρ := ρ') (cs := cs') (q := 3) h2 (by decide)
  have s7 := sk_7 (ρ := ρ') (cs := cs') (q := 3) h2 (by decide)
  have s8 := sk_8 (ρ := ρ') (cs := cs') (q := 3) h2 (by decide)
  have s9 := sk_9 (ρ := ρ') (cs := cs') (q := 3) h2 (by decide)
  have s10 := sk_10 (ρ := ρ') (cs := cs') (q := 3) h2 (by decide)
  have s11 := sk_11 (ρ := ρ') (cs := cs') (q := 3) h2 (by decide)
  have s13 := sk_13 (ρ := ρ') (cs := cs') (q := 3) h2 (by decide)
  have s14 := sk_14 (ρ := ρ') (cs := cs') (q := 3) h2 (by decide)
  refine ⟨c', rows', cs2, ?_, hC⟩
  simp only [Tail, sSeq_, sRet_, ↓bindM, e, er, s0, s1, s2, s4, s5, s6, s7, s8, s9, s10, s11, s13, s14]
theorem tl_4 (R : Rw c rows n) (hk : k < n) (hj : j < n) (ha : a < (rD rows k).length) : TailOk c (ρ2 c rows n (.lst (.int 4 :: rest)) k j a bs) (cs0 c rows) := by
  obtain ⟨ρ', cs', c', rows', p, q, lw, bw, e, hS, hC, h2⟩ := kd_4 R hk ha (rest := rest) (c := c) (j := j) (a := a) (bs := bs)
  obtain ⟨cs2, er⟩ := hS.ret
  have s0 := sk_0 (ρ := ρ2 c rows n (.lst (.int 4 :: rest)) k j a bs) (cs := cs0 c rows) (q := 4) rfl (by decide)
  have s1 := sk_1 (ρ := ρ2 c rows n (.lst (.int 4 :: rest)) k j a bs) (cs := cs0 c rows) (q := 4) rfl (by decide)
  have s2 := sk_2 (ρ := ρ2 c rows n (.lst (.int 4 :: rest)) k j a bs) (cs := cs0 c rows) (q := 4) rfl (by decide)
  have s3 := sk_3 (ρ := ρ2 c rows n (.lst (.int 4 :: rest)) k j a bs) (cs := cs0 c rows) (q := 4) rfl (by decide)
  have s5 := sk_5 (ρ := ρ') (cs := cs') (q := 4) h2 (by decide)
  have s6 := sk_6 (ρ := ρ') (cs := cs') (q := 4) h2 (by decide)
  have s7 := sk_7 (ρ := ρ') (cs := cs') (q := 4) h2 (by decide)
  have s8 := sk_8 (ρ := ρ') (cs := cs') (q := 4) h2 (by decide)
  have s9 := sk_9 (ρ := ρ') (cs := cs') (q := 4) h2 (by decide)
  have s10 := sk_10 (ρ := ρ') (cs := cs') (q := 4) h2 (by decide)
  have s11 := sk_11 (ρ := ρ') (cs := cs') (q := 4) h2 (by decide)
  have s13 := sk_13 (ρ := ρ') (cs := cs') (q := 4) h2 (by decide)
  have s14 := sk_14 (ρ := ρ') (cs := cs') (q := 4) h2 (by decide)
  refine ⟨c', rows', cs2, ?_, hC⟩
  simp only [Tail, sSeq_, sRet_, ↓bindM, e, er, s0, s1, s2, s3, s5, s6, s7, s8, s9, s10, s11, s13, s14]
theorem tl_5 (R : Rw c rows n) (hk : k < n) (hj : j < n) (ha : a < (rD rows k).length) : TailOk c (ρ2 c rows n (.lst (.int 5 :: rest)) k j a bs) (cs0 c rows) := by
  obtain ⟨ρ', cs', c', rows', p, q, lw, bw, e, hS, hC, h2⟩ := kd_5 R hk (rest := rest) (c := c) (j := j) (a := a) (bs := bs)
  obtain ⟨cs2, er⟩ := hS.ret
  have s0 := sk_0 (ρ := ρ2 c rows n (.lst (.int 5 :: rest)) k j a bs) (cs := cs0 c rows) (q := 5) rfl (by decide)
  have s1 := sk_1 (ρ := ρ2 c rows n (.lst (.int 5 :: rest)) k j a bs) (cs := cs0 c rows) (q := 5) rfl (by decide)
  have s2 := sk_2 (ρ := ρ2 c rows n (.lst (.int 5 :: rest)) k j a bs) (cs := cs0 c rows) (q := 5) rfl (by decide)
  have s3 := sk_3 (ρ := ρ2 c rows n (.lst (.int 5 :: rest)) k j a bs) (cs := cs0 c rows) (q := 5) rfl (by decide)
  have s4 := sk_4 (ρ := ρ2 c rows n (.lst (.int 5 :: rest)) k j a bs) (cs := cs0 c rows) (q := 5) rfl (by decide)
  have s6 := sk_6 (ρ := ρ') (cs := cs') (q := 5) h2 (by decide)
  have s7 := sk_7 (ρ := ρ') (cs := cs') (q := 5) h2 (by decide)
  have s8 := sk_8 (ρ := ρ') (cs := cs') (q := 5) h2 (by decide)
  have s9 := sk_9 (ρ := ρ') (cs := cs') (q := 5) h2 (by decide)
  have s10 := sk_10 (ρ := ρ') (cs := cs') (q := 5) h2 (by decide)
  have s11 := sk_11 (ρ := ρ') (cs := cs') (q := 5) h2 (by decide)
  have s13 := sk_13 (ρ := ρ') (cs := cs') (q := 5) h2 (by decide)
  have s14 := sk_14 (ρ := ρ') (cs := cs') (q := 5) h2 (by decide)
  refine ⟨c', rows', cs2, ?_, hC⟩
  simp only [Tail, sSeq_, sRet_, ↓bindM, e, er, s0, s1, s2, s3, s4, s6, s7, s8, s9, s10, s11, s13, s14]
theorem tl_6 (R : Rw c rows n) (hk : k < n) (hj : j < n) (ha : a < (rD rows k).length) {d1 d2 d3 d4 : Int} {rs : List T} (h40 : 0 ≤ d4) (h41 : d4 < 3) : TailOk c (ρ2 c rows n (.lst (.int 6 :: .int d1 :: .int d2 :: .int d3 :: .int d4 :: rs)) k j a bs) (cs0 c rows) := by
  obtain ⟨ρ', cs', c', rows', p, q, lw, bw, e, hS, hC, h2⟩ := kd_6 R hk h40 h41 (d1 := d1) (d2 := d2) (d3 := d3) (rs := rs) (c := c) (j := j) (a := a) (bs := bs)
  obtain ⟨cs2, er⟩ := hS.ret
  have s0 := sk_0 (ρ := ρ2 c rows n (.lst (.int 6 :: .int d1 :: .int d2 :: .int d3 :: .int d4 :: rs)) k j a bs) (cs := cs0 c rows) (q := 6) rfl (by decide)
  have s1 := sk_1 (ρ := ρ2 c rows n (.lst (.int 6 :: .int d1 :: .int d2 :: .int d3 :: .int d4 :: rs)) k j a bs) (cs := cs0 c rows) (q := 6) rfl (by decide)
  have s2 := sk_2 (ρ := ρ2 c rows n (.lst (.int 6 :: .int d1 :: .int d2 :: .int d3 :: .int d4 :: rs)) k j a bs) (cs := cs0 c rows) (q := 6) rfl (by decide)
  have s3 := sk_3 (ρ := ρ2 c rows n (.lst (.int 6 :: .int d1 :: .int d2 :: .int d3 :: .int d4 :: rs)) k j a bs) (cs := cs0 c rows) (q := 6) rfl (by decide)
  have s4 := sk_4 (ρ := ρ2 c rows n (.lst (.int 6 :: .int d1 :: .int d2 :: .int d3 :: .int d4 :: rs)) k j a bs) (cs := cs0 c rows) (q := 6) rfl (by decide)
  have s5 := sk_5 (ρ := ρ2 c rows n (.lst (.int 6 :: .int d1 :: .int d2 :: .int d3 :: .int d4 :: rs)) k j a bs) (cs := cs0 c rows) (q := 6) rfl (by decide)
  have s7 := sk_7 (ρ := ρ') (cs := cs') (q := 6) h2 (by decide)
  have s8 := sk_8 (ρ := ρ') (cs := cs') (q := 6) h2 (by decide)
  have s9 := sk_9 (ρ := ρ') (cs := cs') (q := 6) h2 (by decide)
  have s10 := sk_10 (ρ := ρ') (cs := cs') (q := 6) h2 (by decide)
  have s11 := sk_11 (ρ := ρ') (cs := cs') (q := 6) h2 (by decide)
  have s13 := sk_13 (ρ := ρ') (cs := cs') (q := 6) h2 (by decide)
  have s14 := sk_14 (ρ := ρ') (cs := cs') (q := 6) h2 (by decide)
  refine ⟨c', rows', cs2, ?_, hC⟩
  simp only [Tail, sSeq_, sRet_, ↓bindM, e, er, s0, s1, s2, s3, s4, s5, s7, s8, s9, s10, s11, s13, s14]
theorem tl_7 (R : Rw c rows n) (hk : k < n) (hj : j < n) (ha : a < (rD rows k).length) : TailOk c (ρ2 c rows n (.lst (.int 7 :: rest)) k j a bs) (cs0 c rows) := by
  obtain ⟨ρ', cs', c', rows', p, q, lw, bw, e, hS, hC, h2⟩ := kd_7 R hk (rest := rest) (c := c) (j := j) (a := a) (bs := bs)
  obtain ⟨cs2, er⟩ := hS.ret
  have s0 := sk_0 (ρ := ρ2 c rows n (.lst (.int 7 :: rest)) k j a bs) (cs := cs0 c rows) (q := 7) rfl (by decide)
  have s1 := sk_1 (ρ := ρ2 c rows n (.lst (.int 7 :: rest)) k j a bs) (cs := cs0 c rows) (q := 7) rfl (by decide)
  have s2 := sk_2 (ρ := ρ2 c rows n (.lst (.int 7 :: rest)) k j a bs) (cs := cs0 c rows) (q := 7) rfl (by decide)
  have s3 := sk_3 (ρ := ρ2 c rows n (.lst (.int 7 :: rest)) k j a bs) (cs := cs0 c rows) (q := 7) rfl (by decide)
  have s4 := sk_4 (ρ := ρ2 c rows n (.lst (.int 7 :: rest)) k j a bs) (cs := cs0 c rows) (q := 7) rfl (by decide)
  have s5 := sk_5 (ρ := ρ2 c rows n (.lst (.int 7 :: rest)) k j a bs) (cs := cs0 c rows) (q := 7) rfl (by decide)
  have s6 := sk_6 (ρ := ρ2 c rows n (.lst (.int 7 :: rest)) k j a bs) (cs := cs0 c rows) (q := 7) rfl (by decide)
  have s8 := sk_8 (ρ := ρ') (cs := cs') (q := 7) h2 (by decide)
  have s9 := sk_9 (ρ := ρ') (cs := cs') (q := 7) h2 (by decide)
  have s10 := sk_10 (ρ := ρ') (cs := cs') (q := 7) h2 (by decide)
  have s11 := sk_11 (ρ := ρ') (cs := cs') (q := 7) h2 (by decide)
  have s13 := sk_13 (ρ := ρ') (cs := cs') (q := 7) h2 (by decide)
  have s14 := sk_14 (ρ := ρ') (cs := cs') (q := 7) h2 (by decide)
  refine ⟨c', rows', cs2, ?_, hC⟩
  simp only [Tail, sSeq_, sRet_, ↓bindM, e, er, s0, s1, s2, s3, s4, s5, s6, s8, s9, s10, s11, s13, s14]
theorem tl_8 (R : Rw c rows n) (hk : k < n) (hj : j < n) (ha : a < (rD rows k).length) : TailOk c (ρ2 c rows n (.lst (.int 8 :: rest)) k j a bs) (cs0 c rows) := by
  obtain ⟨ρ', cs', c', rows', p, q, lw, bw, e, hS, hC, h2⟩ := kd_8 R hk (rest := rest) (c := c) (j := j) (a := a) (bs := bs)
  obtain ⟨cs2, er⟩ := hS.ret
  have s0 := sk_0 (ρ := ρ2 c rows n (.lst (.int 8 :: rest)) k j a bs) (cs := cs0 c rows) (q := 8) rfl (by decide)
  have s1 := sk_1 (ρ := ρ2 c rows n (.lst (.int 8 :: rest)) k j a bs) (cs := cs0 c rows) (q := 8) rfl (by decide)
  have s2 := sk_2 (ρ := ρ2 c rows n (.lst (.int 8 :: rest)) k j a bs) (cs := cs0 c rows) (q := 8) rfl (by decide)
  have s3 := sk_3 (ρ := ρ2 c rows n (.lst (.int 8 :: rest)) k j a bs) (cs := cs0 c rows) (q := 8) rfl (by decide)
  have s4 := sk_4 (ρ := ρ2 c rows n (.lst (.int 8 :: rest)) k j a bs) (cs := cs0 c rows) (q := 8) rfl (by decide)
  have s5 := sk_5 (ρ := ρ2 c rows n (.lst (.int 8 :: rest)) k j a bs) (cs := cs0 c rows) (q := 8) rfl (by decide)
  have s6 := sk_6 (ρ := ρ2 c rows n (.lst (.int 8 :: rest)) k j a bs) (cs := cs0 c rows) (q := 8) rfl (by decide)
  have s7 := sk_7 (ρ := ρ2 c rows n (.lst (.int 8 :: rest)) k j a bs) (cs := cs0 c rows) (q := 8) rfl (by decide)
  have s9 := sk_9 (ρ := ρ') (cs := cs') (q := 8) h2 (by decide)
  have s10 := sk_10 (ρ := ρ') (cs := cs') (q := 8) h2 (by decide)
  have s11 := sk_11 (ρ := ρ') (cs := cs') (q := 8) h2 (by decide)
  have s13 := sk_13 (ρ := ρ') (cs := cs') (q := 8) h2 (by decide)
  have s14 := sk_14 (ρ := ρ') (cs := cs') (q := 8) h2 (by decide)
  refine ⟨c', rows', cs2, ?_, hC⟩
  simp only [Tail, sSeq_, sRet_, ↓bindM, e, er, s0, s1, s2, s3, s4, s5, s6, s7, s9, s10, s11, s13, s14]
theorem tl_9 (R : Rw c rows n) (hk : k < n) (hj : j < n) (ha : a < (rD rows k).length) : TailOk c (ρ2 c rows n (.lst (.int 9 :: rest)) k j a bs) (cs0 c rows) := by
  obtain ⟨ρ', cs', c', rows', p, q, lw, bw, e, hS, hC, h2⟩ := kd_9 R hk (rest := rest) (c := c) (j := j) (a := a) (bs := bs)
  obtain ⟨cs2, er⟩ := hS.ret
  have s0 := sk_0 (ρ := ρ2 c rows n (.lst (.int 9 :: rest)) k j a bs) (cs := cs0 c rows) (q := 9) rfl (by decide)
  have s1 := sk_1 (ρ := ρ2 c rows n (.lst (.int 9 :: rest)) k j a bs) (cs := cs0 c rows) (q := 9) rfl (by decide)
  have s2 := sk_2 (ρ := ρ2 c rows n (.lst (.int 9 :: rest)) k j a bs) (cs := cs0 c rows) (q := 9) rfl (by decide)
  have s3 := sk_3 (ρ := ρ2 c rows n (.lst (.int 9 :: rest)) k j a bs) (cs := cs0 c rows) (q := 9) rfl (by decide)
  have s4 := sk_4 (ρ := ρ2 c rows n (.lst (.int 9 :: rest)) k j a bs) (cs := cs0 c rows) (q := 9) rfl (by decide)
  have s5 := sk_5 (ρ := ρ2 c rows n (.lst (.int 9 :: rest)) k j a bs) (cs := cs0 c rows) (q := 9) rfl (by decide)
  have s6 := sk_6 (ρ := ρ2 c rows n (.lst (.int 9 :: rest)) k j a bs) (cs := cs0 c rows) (q := 9) rfl (by decide)
  have s7 := sk_7 (ρ := ρ2 c rows n (.lst (.int 9 :: rest)) k j a bs) (cs := cs0 c rows) (q := 9) rfl (by decide)
  have s8 := sk_8 (ρ := ρ2 c rows n (.lst (.int 9 :: rest)) k j a bs) (cs := cs0 c rows) (q := 9) rfl (by decide)
  have s10 := sk_10 (ρ := ρ') (cs := cs') (q := 9) h2 (by decide)
  have s11 := sk_11 (ρ := ρ') (cs := cs') (q := 9) h2 (by decide)
  have s13 := sk_13 (ρ := ρ') (cs := cs') (q := 9) h2 (by decide)
  have s14 := sk_14 (ρ := ρ') (cs := cs') (q := 9) h2 (by decide)
  refine ⟨c', rows', cs2, ?_, hC⟩
  simp only [Tail, sSeq_, sRet_, ↓bindM, e, er, s0, s1, s2, s3, s4, s5, s6, s7, s8, s10, s11, s13, s14]
theorem tl_10 (R : Rw c rows n) (hk : k < n) (hj : j < n) (ha : a < (rD rows k).length) : TailOk c (ρ2 c rows n (.lst (.int 10 :: rest)) k j a bs) (cs0 c rows) := by
  obtain ⟨ρ', cs', c', rows', p, q, lw, bw, e, hS, hC, h2⟩ := kd_10 R hk ha (rest := rest) (c := c) (j := j) (a := a) (bs := bs)
  obtain ⟨cs2, er⟩ := hS.ret
  have s0 := sk_0 (ρ := ρ2 c rows n (.lst (.int 10 :: rest)) k j a bs) (cs := cs0 c rows) (q := 10) rfl (by decide)
  have s1 := sk_1 (ρ := ρ2 c rows n (.lst (.int 10 :: rest)) k j a bs) (cs := cs0 c rows) (q := 10) rfl (by decide)
  have s2 := sk_2 (ρ := ρ2 c rows n (.lst (.int 10 :: rest)) k j a bs) (cs := cs0 c rows) (q := 10) rfl (by decide)
  have s3 := sk_3 (ρ := ρ2 c rows n (.lst (.int 10 :: rest)) k j a bs) (cs := cs0 c rows) (q := 10) rfl (by decide)
  have s4 := sk_4 (ρ := ρ2 c rows n (.lst (.int 10 :: rest)) k j a bs) (cs := cs0 c rows) (q := 10) rfl (by decide)
  have s5 := sk_5 (ρ := ρ2 c rows n (.lst (.int 10 :: rest)) k j a bs) (cs := cs0 c rows) (q := 10) rfl (by decide)
  have s6 := sk_6 (ρ := ρ2 c rows n (.lst (.int 10 :: rest)) k j a bs) (cs := cs0 c rows) (q := 10) rfl (by decide)
  have s7 := sk_7 (ρ := ρ2 c rows n (.lst (.int 10 :: rest)) k j a bs) (cs := cs0 c rows) (q := 10) rfl (by decide)
  have s8 := sk_8 (ρ := ρ2 c rows n (.lst (.int 10 :: rest)) k j a bs) (cs := cs0 c rows) (q := 10) rfl (by decide)
  have s9 := sk_9 (ρ := ρ2 c rows n (.lst (.int 10 :: rest)) k j a bs) (cs := cs0 c rows) (q := 10) rfl (by decide)
  have s11 := sk_11 (ρ := ρ') (cs := cs') (q := 10) h2 (by decide)
  have s13 := sk_13 (ρ := ρ') (cs := cs') (q := 10) h2 (by decide)
  have s14 := sk_14 (ρ := ρ') (cs := cs') (q := 10) h2 (by decide)
  refine ⟨c', rows', cs2, ?_, hC⟩
  simp only [Tail, sSeq_, sRet_, ↓bindM, e, er, s0, s1, s2, s3, s4, s5, s6, s7, s8, s9, s11, s13, s14]
theorem tl_11 (R : Rw c rows n) (hk : k < n) (hj : j < n) (ha : a < (rD rows k).length) : TailOk c (ρ2 c rows n (.lst (.int 11 :: rest)) k j a bs) (cs0 c rows) := by
  obtain ⟨ρ', cs', c', rows', p, q, lw, bw, e, hS, hC, h2⟩ := kd_11 R hk ha (rest := rest) (c := c) (j := j) (a := a) (bs := bs)
  obtain ⟨cs2, er⟩ := hS.ret
  have s0 := sk_0 (ρ := ρ2 c rows n (.lst (.int 11 :: rest)) k j a bs) (cs := cs0 c rows) (q := 11) rfl (by decide)
  have s1 := sk_1 (ρ := ρ2 c rows n (.lst (.int 11 :: rest)) k j a bs) (cs := cs0 c rows) (q := 11) rfl (by decide)
  have s2 := sk_2 (ρ := ρ2 c rows n (.lst (.int 11 :: rest)) k j a bs) (cs := cs0 c rows) (q := 11) rfl (by decide)
  have s3 := sk_3 (ρ := ρ2 c rows n (.lst (.int 11 :: rest)) k j a bs) (cs := cs0 c rows) (q := 11) rfl (by decide)
  have s4 := sk_4 (ρ := ρ2 c rows n (.lst (.int 11 :: rest)) k j a bs) (cs := cs0 c rows) (q := 11) rfl (by decide)
  have s5 := sk_5 (ρ := ρ2 c rows n (.lst (.int 11 :: rest)) k j a bs) (cs := cs0 c rows) (q := 11) rfl (by decide)
  have s6 := sk_6 (ρ := ρ2 c rows n (.lst (.int 11 :: rest)) k j a bs) (cs := cs0 c rows) (q := 11) rfl (by decide)
  have s7 := sk_7 (ρ := ρ2 c rows n (.lst (.int 11 :: rest)) k j a bs) (cs := cs0 c rows) (q := 11) rfl (by decide)
  have s8 := sk_8 (ρ := ρ2 c rows n (.lst (.int 11 :: rest)) k j a bs) (cs := cs0 c rows) (q := 11) rfl (by decide)
  have s9 := sk_9 (ρ := ρ2 c rows n (.lst (.int 11 :: rest)) k j a bs) (cs := cs0 c rows) (q := 11) rfl (by decide)
  have s10 := sk_10 (ρ := ρ2 c rows n (.lst (.int 11 :: rest)) k j a bs) (cs := cs0 c rows) (q := 11) rfl (by decide)
  have s13 := sk_13 (ρ := ρ') (cs := cs') (q := 11) h2 (by decide)
  have s14 := sk_14 (ρ := ρ') (cs := cs') (q := 11) h2 (by decide)
  refine ⟨c', rows', cs2, ?_, hC⟩
  simp only [Tail, sSeq_, sRet_, ↓bindM, e, er, s0, s1, s2, s3, s4, s5, s6, s7, s8, s9, s10, s13, s14]
theorem tl_13 (R : Rw c rows n) (hk : k < n) (hj : j < n) (ha : a < (rD rows k).length) : TailOk c (ρ2 c rows n (.lst (.int 13 :: rest)) k j a bs) (cs0 c rows) := by
  obtain ⟨ρ', cs', c', rows', p, q, lw, bw, e, hS, hC, h2⟩ := kd_13 R hk (rest := rest) (c := c) (j := j) (a := a) (bs := bs)
  obtain ⟨cs2, er⟩ := hS.ret
  have s0 := sk_0 (ρ := ρ2 c rows n (.lst (.int 13 :: rest)) k j a bs) (cs := cs0 c rows) (q := 13) rfl (by decide)
  have s1 := sk_1 (ρ := ρ2 c rows n (.lst (.int 13 :: rest)) k j a bs) (cs := cs0 c rows) (q := 13) rfl (by decide)
  have s2 := sk_2 (ρ := ρ2 c rows n (.lst (.int 13 :: rest)) k j a bs) (cs := cs0 c rows) (q := 13) rfl (by decide)
  have s3 := sk_3 (ρ := ρ2 c rows n (.lst (.int 13 :: rest)) k j a bs) (cs := cs0 c rows) (q := 13) rfl (by decide)
  have s4 := sk_4 (ρ := ρ2 c rows n (.lst (.int 13 :: rest)) k j a bs) (cs := cs0 c rows) (q := 13) rfl (by decide)
  have s5 := sk_5 (ρ := ρ2 c rows n (.lst (.int 13 :: rest)) k j a bs) (cs := cs0 c rows) (q := 13) rfl (by decide)
  have s6 := sk_6 (ρ := ρ2 c rows n (.lst (.int 13 :: rest)) k j a bs) (cs := cs0 c rows) (q := 13) rfl (by decide)
  have s7 := sk_7 (ρ := ρ2 c rows n (.lst (.int 13 :: rest)) k j a bs) (cs := cs0 c rows) (q := 13) rfl (by decide)
  have s8 := sk_8 (ρ := ρ2 c rows n (.lst (.int 13 :: rest)) k j a bs) (cs := cs0 c rows) (q := 13) rfl (by decide)
  have s9 := sk_9 (ρ := ρ2 c rows n (.lst (.int 13 :: rest)) k j a bs) (cs := cs0 c rows) (q := 13) rfl (by decide)
  have s10 := sk_10 (ρ := ρ2 c rows n (.lst (.int 13 :: rest)) k j a bs) (cs := cs0 c rows) (q := 13) rfl (by decide)
  have s11 := sk_11 (ρ := ρ2 c rows n (.lst (.int 13 :: rest)) k j a bs) (cs := cs0 c rows) (q := 13) rfl (by decide)
  have s14 := sk_14 (ρ := ρ') (cs := cs') (q := 13) h2 (by decide)
  refine ⟨c', rows', cs2, ?_, hC⟩
  simp only [Tail, sSeq_, sRet_, ↓bindM, e, er, s0, s1, s2, s3, s4, s5, s6, s7, s8, s9, s10, s11, s14]
theorem tl_14 (R : Rw c rows n) (hk : k < n) (hj : j < n) (ha : a < (rD rows k).length) : TailOk c (ρ2 c rows n (.lst (.int 14 :: rest)) k j a bs) (cs0 c rows) := by
  obtain ⟨ρ', cs', c', rows', p, q, lw, bw, e, hS, hC, h2⟩ := kd_14 R hk (rest := rest) (c := c) (j := j) (a := a) (bs := bs)
  obtain ⟨cs2, er⟩ := hS.ret
  have s0 := sk_0 (ρ := ρ2 c rows n (.lst (.int 14 :: rest)) k j a bs) (cs := cs0 c rows) (q := 14) rfl (by decide)
  have s1 := sk_1 (ρ := ρ2 c rows n (.lst (.int 14 :: rest)) k j a bs) (cs := cs0 c rows) (q := 14) rfl (by decide)
  have s2 := sk_2 (ρ := ρ2 c rows n (.lst (.int 14 :: rest)) k j a bs) (cs := cs0 c rows) (q := 14) rfl (by decide)
  have s3 := sk_3 (ρ := ρ2 c rows n (.lst (.int 14 :: rest)) k j a bs) (cs := cs0 c rows) (q := 14) rfl (by decide)
  have s4 := sk_4 (ρ := ρ2 c rows n (.lst (.int 14 :: rest)) k j a bs) (cs := cs0 c rows) (q := 14) rfl (by decide)
  have s5 := sk_5 (ρ := ρ2 c rows n (.lst (.int 14 :: rest)) k j a bs) (cs := cs0 c rows) (q := 14) rfl (by decide)
  have s6 := sk_6 (ρ := ρ2 c rows n (.lst (.int 14 :: rest)) k j a bs) (cs := cs0 c rows) (q := 14) rfl (by decide)
  have s7 := sk_7 (ρ := ρ2 c rows n (.lst (.int 14 :: rest)) k j a bs) (cs := cs0 c rows) (q := 14) rfl (by decide)
  have s8 := sk_8 (ρ := ρ2 c rows n (.lst (.int 14 :: rest)) k j a bs) (cs := cs0 c rows) (q := 14) rfl (by decide)
  have s9 := sk_9 (ρ := ρ2 c rows n (.lst (.int 14 :: rest)) k j a bs) (cs := cs0 c rows) (q := 14) rfl (by decide)
  have s10 := sk_10 (ρ := ρ2 c rows n (.lst (.int 14 :: rest)) k j a bs) (cs := cs0 c rows) (q := 14) rfl (by decide)
  have s11 := sk_11 (ρ := ρ2 c rows n (.lst (.int 14 :: rest)) k j a bs) (cs := cs0 c rows) (q := 14) rfl (by decide)
  have s13 := sk_13 (ρ := ρ2 c rows n (.lst (.int 14 :: rest)) k j a bs) (cs := cs0 c rows) (q := 14) rfl (by decide)
  refine ⟨c', rows', cs2, ?_, hC⟩
  simp only [Tail, sSeq_, sRet_, ↓bindM, e, er, s0, s1, s2, s3, s4, s5, s6, s7, s8, s9, s10, s11, s13]
theorem picks (R : Rw c rows n) {q d0 d1 d2 d3 : Int} {rs : List T} (h0 : 0 ≤ d0) (h1 : 0 ≤ d1) (h2 : 0 ≤ d2) (h30 : 0 ≤ d3) (h31 : d3 < 3) (hne : busy rows n ≠ []) (hq : q ≠ 12) :
    ∃ k j a, k < n ∧ j < n ∧ a < (rD rows k).length ∧ m_law_changed [some (.cl (.lst (c.map ltT))), some (.cl (.tup (rows.map bT))), some (.cl (.lst (.int q :: .int d0 :: .int d1 :: .int d2 :: .int d3 :: rs))), none, none, none, none, none, none, none, none, none, none] [] = Tail (ρ2 c rows n (.lst (.int q :: .int d0 :: .int d1 :: .int d2 :: .int d3 :: rs)) k j a (busy rows n)) (cs0 c rows) := by
  have bl := List.length_pos_iff.mpr hne
  have bm : ∀ k ∈ busy rows n, k < n ∧ 0 < (rD rows k).length := fun k hk => by
    obtain ⟨a, b⟩ := List.mem_filter.mp hk
    exact ⟨List.mem_range.mp a, of_decide_eq_true b⟩
  have lp : (0 : Int) < ((busy rows n).length : Nat) := by omega
  obtain ⟨x, hx⟩ := Int.eq_ofNat_of_zero_le (Int.emod_nonneg d0 (show ((busy rows n).length : Int) ≠ 0 by omega))
  have hx1 := Int.emod_lt_of_pos d0 lp
  rw [hx] at hx1
  obtain ⟨y, hy⟩ := Int.eq_ofNat_of_zero_le (Int.emod_nonneg d1 (show ((busy rows n).length : Int) ≠ 0 by omega))
  have hy1 := Int.emod_lt_of_pos d1 lp
  rw [hy] at hy1
  have hxl : x < (busy rows n).length := by omega
  have hyl : y < (busy rows n).length := by omega
  obtain ⟨kn, kr⟩ := bm _ (List.getElem_mem hxl)
  obtain ⟨jn, jr⟩ := bm _ (List.getElem_mem hyl)
  have gk : ((busy rows n).map natT)[x]? = some (T.int (busy rows n)[x]) := by rw [List.getElem?_map, List.getElem?_eq_getElem hxl]; rfl
  have gj : ((busy rows n).map natT)[y]? = some (T.int (busy rows n)[y]) := by rw [List.getElem?_map, List.getElem?_eq_getElem hyl]; rfl
  generalize (busy rows n)[x] = k at kn kr gk
  generalize (busy rows n)[y] = j at jn jr gj
  have rp : (0 : Int) < ((rD rows k).length : Nat) := by omega
  obtain ⟨z, hz⟩ := Int.eq_ofNat_of_zero_le (Int.emod_nonneg d2 (show ((rD rows k).length : Int) ≠ 0 by omega))
  have hz1 := Int.emod_lt_of_pos d2 rp
  rw [hz] at hz1
  refine ⟨k, j, z, kn, jn, by omega, ?_⟩
  have e1 := ch_C1 (c := c) R (w0 := some (.cl (.lst (c.map ltT)))) (w2 := some (.cl (.lst (.int q :: .int d0 :: .int d1 :: .int d2 :: .int d3 :: rs))))
  have e2 := ch_C2 R (w1 := some (.cl (.tup (rows.map bT)))) (w2 := some (.cl (.lst (.int q :: .int d0 :: .int d1 :: .int d2 :: .int d3 :: rs))))
  have e3 := ch_C3 R (.lst (.int q :: .int d0 :: .int d1 :: .int d2 :: .int d3 :: rs))
  have s12 := sk_12 (ρ := ρ1 c rows n (.lst (.int q :: .int d0 :: .int d1 :: .int d2 :: .int d3 :: rs))) (cs := cs0 c rows) rfl hq
  have i1 : atI (T.int q :: T.int d0 :: T.int d1 :: T.int d2 :: T.int d3 :: rs) 1 = some (T.int d0) := by rw [show (1 : Int) = ((1 : Nat) : Int) from rfl, gx_nat]; rfl
  have i2 : atI (T.int q :: T.int d0 :: T.int d1 :: T.int d2 :: T.int d3 :: rs) 2 = some (T.int d1) := by rw [show (2 : Int) = ((2 : Nat) : Int) from rfl, gx_nat]; rfl
  have i3 : atI (T.int q :: T.int d0 :: T.int d1 :: T.int d2 :: T.int d3 :: rs) 3 = some (T.int d2) := by rw [show (3 : Int) = ((3 : Nat) : Int) from rfl, gx_nat]; rfl
  have sI2 : I2_law_changed ((ρ1 c rows n (.lst (.int q :: .int d0 :: .int d1 :: .int d2 :: .int d3 :: rs))).set 5 (some (.cl (.lst ((busy rows n).map natT))))) (cs0 c rows) = .ok (.nx ((ρ1 c rows n (.lst (.int q :: .int d0 :: .int d1 :: .int d2 :: .int d3 :: rs))).set 5 (some (.cl (.lst ((busy rows n).map natT)))))) (cs0 c rows) := by
    have d : decide (((busy rows n).length : Int) = 0) = false := decide_eq_false (by omega)
    simp only [I2_law_changed, ρ1, ↓bindM, ev, ef, ↓reduceIte, el, List.length_map, d]
  have cr := c_row (c := c) R.hr (get_rD (R.sr kn))
  simp only [ρ1, el] at s12 e3 sI2
  unfold Tail
  simp only [m_law_changed, ↓bindM, sSeq_, sAsg_, mgName_, e1, e2, el, s12, e3, sI2]
  have a6 : ∀ ρ : G.Loc, ρ[5]? = some (some (.cl (.lst ((busy rows n).map natT)))) → ρ[2]? = some (some (.cl (.lst (.int q :: .int d0 :: .int d1 :: .int d2 :: .int d3 :: rs)))) → (mOp fIx (mVar 5) (mOp fMod (mOp fIx (mVar 2) (mC (.int 1))) (mCall fLen (mCons (mVar 5) mNil)))) ρ (cs0 c rows) = .ok (.cl (.int k)) (cs0 c rows) := fun ρ h5 h2 => by
    simp only [↓bindM, ev, h5, h2, ef, i1, List.length_map, lp, ↓reduceIte, hx, gx_nat, gk]
  have a7 : ∀ ρ : G.Loc, ρ[5]? = some (some (.cl (.lst ((busy rows n).map natT)))) → ρ[2]? = some (some (.cl (.lst (.int q :: .int d0 :: .int d1 :: .int d2 :: .int d3 :: rs)))) → (mOp fIx (mVar 5) (mOp fMod (mOp fIx (mVar 2) (mC (.int 2))) (mCall fLen (mCons (mVar 5) mNil)))) ρ (cs0 c rows) = .ok (.cl (.int j)) (cs0 c rows) := fun ρ h5 h2 => by
    simp only [↓bindM, ev, h5, h2, ef, i2, List.length_map, lp, ↓reduceIte, hy, gx_nat, gj]
  have a8 : ∀ ρ : G.Loc, ρ[3]? = some (some (.pt n)) → ρ[6]? = some (some (.cl (.int k))) → (mOp fIx (mVar 3) (mVar 6)) ρ (cs0 c rows) = .ok (.pt k) (cs0 c rows) := fun ρ h3 h6 => by
    simp only [↓bindM, ev, h3, h6, ep, c_top R.hr, gx_nat, g_pt R kn]
  have a9 : ∀ ρ : G.Loc, ρ[2]? = some (some (.cl (.lst (.int q :: .int d0 :: .int d1 :: .int d2 :: .int d3 :: rs)))) → ρ[8]? = some (some (.pt k)) → (mOp fMod (mOp fIx (mVar 2) (mC (.int 3))) (mCall fLen (mCons (mVar 8) mNil))) ρ (cs0 c rows) = .ok (.cl (.int z)) (cs0 c rows) := fun ρ h2 h8 => by
    simp only [↓bindM, ev, h2, h8, ef, i3, ep, cr, digW_len, rp, ↓reduceIte, hz]
  rw [a6 _ rfl rfl]
  simp only [el]
  rw [a7 _ rfl rfl]
  simp only [el]
  rw [a8 _ rfl rfl]
  simp only [el]
  rw [a9 _ rfl rfl]
  simp only [el]
  rfl
theorem p_changed (R : Rw c rows n) {q : Int} (q0 : 0 ≤ q) (q1 : q < 15) {dr : List Int} (hd : Dig drS drS.length dr) : ∃ c' rows', g_law_changed [.lst (c.map ltT), .tup (rows.map bT), .lst (.int q :: dr.map T.int)] = some (.lst [.lst (c'.map hT2), .lst (rows'.map rowT)]) ∧ Cd c c' rows' := by
  obtain ⟨d0, d1, d2, d3, ds, rfl, h0, h1, h2, h30, h31⟩ : ∃ d0 d1 d2 d3 ds, dr = d0 :: d1 :: d2 :: d3 :: ds ∧ 0 ≤ d0 ∧ 0 ≤ d1 ∧ 0 ≤ d2 ∧ 0 ≤ d3 ∧ d3 < 3 := by
    have hl := hd.1
    obtain ⟨a0, b0, e0, f0, _⟩ := hd.2 0 (by decide)
    obtain ⟨a1, b1, e1, f1, _⟩ := hd.2 1 (by decide)
    obtain ⟨a2, b2, e2, f2, _⟩ := hd.2 2 (by decide)
    obtain ⟨a3, b3, e3, f3, g30, g31⟩ := hd.2 3 (by decide)
    cases f3
    match dr, hl, e0, e1, e2, e3 with
    | x0 :: x1 :: x2 :: x3 :: xs, _, e0, e1, e2, e3 =>
      cases e0; cases e1; cases e2; cases e3
      exact ⟨_, _, _, _, _, rfl, by omega, by omega, by omega, g30, g31⟩
  simp only [List.map_cons]
  have e1 := ch_C1 (c := c) R (w0 := some (.cl (.lst (c.map ltT)))) (w2 := some (.cl (.lst (.int q :: .int d0 :: .int d1 :: .int d2 :: .int d3 :: ds.map T.int))))
  have e2 := ch_C2 R (w1 := some (.cl (.tup (rows.map bT)))) (w2 := some (.cl (.lst (.int q :: .int d0 :: .int d1 :: .int d2 :: .int d3 :: ds.map T.int))))
  by_cases h12 : q = 12
  · subst h12
    obtain ⟨c', rows', cs', e, hC⟩ := kd_12 (rest := .int d0 :: .int d1 :: .int d2 :: .int d3 :: ds.map T.int) R
    refine ⟨c', rows', run_cl (ρ := [some (.cl _), some (.cl _), some (.cl _), none, none, none, none, none, none, none, none, none, none]) rfl ?_ (cs := cs'), hC⟩
    simp only [ρ1] at e
    simp only [m_law_changed, ↓bindM, sSeq_, sAsg_, mgName_, e1, e2, el, e]
  · by_cases hne : busy rows n = []
    · obtain ⟨c', rows', cs', e, hC⟩ := kd_none (q := q) (rest := .int d0 :: .int d1 :: .int d2 :: .int d3 :: ds.map T.int) R
      have s12 := sk_12 (ρ := ρ1 c rows n (.lst (.int q :: .int d0 :: .int d1 :: .int d2 :: .int d3 :: ds.map T.int))) (cs := cs0 c rows) rfl h12
      have e3 := ch_C3 R (.lst (.int q :: .int d0 :: .int d1 :: .int d2 :: .int d3 :: ds.map T.int))
      rw [hne, List.map_nil] at e3
      refine ⟨c', rows', run_cl (ρ := [some (.cl _), some (.cl _), some (.cl _), none, none, none, none, none, none, none, none, none, none]) rfl ?_ (cs := cs'), hC⟩
      simp only [ρ1, el] at e s12 e3
      simp only [m_law_changed, ↓bindM, sSeq_, sAsg_, mgName_, e1, e2, el, s12, e3, e]
    · obtain ⟨k, j, a, hk, hj, ha, em⟩ := picks (rs := ds.map T.int) R h0 h1 h2 h30 h31 hne h12
      have fin : TailOk c (ρ2 c rows n (.lst (.int q :: .int d0 :: .int d1 :: .int d2 :: .int d3 :: ds.map T.int)) k j a (busy rows n)) (cs0 c rows) := by
        have hqs : q = 0 ∨ q = 1 ∨ q = 2 ∨ q = 3 ∨ q = 4 ∨ q = 5 ∨ q = 6 ∨ q = 7 ∨ q = 8 ∨ q = 9 ∨ q = 10 ∨ q = 11 ∨ q = 13 ∨ q = 14 := by omega
        rcases hqs with rfl | rfl | rfl | rfl | rfl | rfl | rfl | rfl | rfl | rfl | rfl | rfl | rfl | rfl
        · exact tl_0 R hk hj ha
        · exact tl_1 R hk hj ha
        · exact tl_2 R hk hj ha
        · exact tl_3 R hk hj ha
        · exact tl_4 R hk hj ha
        · exact tl_5 R hk hj ha
        · exact tl_6 R hk hj ha h30 h31
        · exact tl_7 R hk hj ha
        · exact tl_8 R hk hj ha
        · exact tl_9 R hk hj ha
        · exact tl_10 R hk hj ha
        · exact tl_11 R hk hj ha
        · exact tl_13 R hk hj ha
        · exact tl_14 R hk hj ha
      obtain ⟨c', rows', cs', et, hC⟩ := fin
      exact ⟨c', rows', run_cl (ρ := [some (.cl _), some (.cl _), some (.cl _), none, none, none, none, none, none, none, none, none, none]) rfl (em.trans et), hC⟩
end
end My

namespace My
open PySem L2 G
theorem dig_get {sizes row : List Int} (h : Dig sizes sizes.length row) {j : Nat} {s : Int} (hs : sizes[j]? = some s) : ∃ d, row[j]? = some d ∧ 0 ≤ d ∧ d < s := by
  obtain ⟨d, s', a, b, c, e⟩ := h.2 j (List.getElem?_eq_some_iff.mp hs).1
  rw [hs] at b; cases b
  exact ⟨d, a, c, e⟩
def netS : List Int := [8, 60, 60, 60, 60, 60, 60, 3, 42, 42, 3, 42, 42, 3, 42, 42, 3, 42, 42]
def crowdS : List Int := [9, 3, 5040, 49, 8, 5040, 49, 8, 5040, 49, 8, 5040, 49, 8, 5040, 49, 8, 5040, 49, 8, 5040, 49, 8, 5040, 49, 8]
def moreS : List Int := [6, 992, 8, 24, 61, 5]
def stS : List Int := [6, 19683, 5, 6, 19683, 5, 6, 19683, 5, 6, 19683, 5, 6, 19683, 5, 6, 19683, 5, 6, 19683, 5, 6, 19683, 5]
def numS : List Int := List.replicate 40 840
theorem sz_net : ∀ s ∈ netS, 0 < s ∧ s < 1073741824 := by decide
theorem sz_crowd : ∀ s ∈ crowdS, 0 < s ∧ s < 1073741824 := by decide
theorem sz_more : ∀ s ∈ moreS, 0 < s ∧ s < 1073741824 := by decide
theorem sz_st : ∀ s ∈ stS, 0 < s ∧ s < 1073741824 := by decide
theorem sz_num : ∀ s ∈ numS, 0 < s ∧ s < 1073741824 := fun s hs => by rw [(List.mem_replicate.mp hs).2]; decide
theorem netRow {row : List Int} (h : Dig netS netS.length row) : NetRow row := by
  refine ⟨h.1, ?_, fun k hk => ?_⟩
  · obtain ⟨d, a, b, c⟩ := dig_get h (j := 0) (s := 8) rfl
    exact ⟨d, a, b, c⟩
  · have hk2 : k < netS.length := hk
    obtain ⟨d, a, b, c⟩ := dig_get h (List.getElem?_eq_getElem hk2)
    have : netS[k] ≤ 60 := (show ∀ s ∈ netS, s ≤ 60 by decide) _ (List.getElem_mem hk2)
    exact ⟨d, a, b, by omega⟩
theorem near_of {n : Nat} {L : List (Int × Int)} {near : List (List Int)} (hn : n ≤ 7) (hL : Lks n L) (h1 : near.length = n) (h2 : ∀ (i : Nat) (r : List Int), near[i]? = some r → r.length ≤ 2000 ∧ ∀ b : Int, b ∈ r ↔ (((i : Nat) : Int), b) ∈ L ∨ (b, ((i : Nat) : Int)) ∈ L) : Near n near := by
  refine ⟨h1, fun i r hr b hb => ?_, by omega, fun i r hr => (h2 i r hr).1⟩
  rcases ((h2 i r hr).2 b).mp hb with h | h
  · have := hL _ h; dsimp only at this; omega
  · have := hL _ h; dsimp only at this; omega
theorem rch_of {n : Nat} {L : List (Int × Int)} {near : List (List Int)} (hL : Lks n L) (h1 : near.length = n) (h2 : ∀ (i : Nat) (r : List Int), near[i]? = some r → r.length ≤ 2000 ∧ ∀ b : Int, b ∈ r ↔ (((i : Nat) : Int), b) ∈ L ∨ (b, ((i : Nat) : Int)) ∈ L) {u v : Int} (h : Con L u v) : Rch near [] u v := by
  have nb : ∀ a b : Int, ((a, b) ∈ L ∨ (b, a) ∈ L) → Nb near a b := fun a b hab => by
    have ha : 0 ≤ a ∧ a < n := by
      rcases hab with h | h
      · have := hL _ h; dsimp only at this; omega
      · have := hL _ h; dsimp only at this; omega
    obtain ⟨q, rfl⟩ := Int.eq_ofNat_of_zero_le ha.1
    have hq : q < near.length := by omega
    exact ⟨q, near[q], rfl, List.getElem?_eq_getElem hq, ((h2 q _ (List.getElem?_eq_getElem hq)).2 b).mpr hab⟩
  have tr : ∀ {a b c : Int}, Nb near a b → Rch near [] b c → Rch near [] a c := fun {a b c} hab hbc => by
    induction hbc with
    | refl => exact .step .refl hab (by simp)
    | step _ h3 h4 ih => exact .step ih h3 h4
  induction h with
  | refl => exact .refl
  | fwd m _ ih => exact tr (nb _ _ (.inl m)) ih
  | bwd m _ ih => exact tr (nb _ _ (.inr m)) ih
/-- a crowd that the law may ask -/
def GoodC (c : List Ltr) : Prop := c.length ≤ 60 ∧ ∀ l ∈ c, 1 ≤ l.2.length ∧ l.2.length ≤ 30
/-- one whose nodes can still be named -/
def NmC (c : List Ltr) : Prop := c.length ≤ 60 ∧ ∀ l ∈ c, (1 ≤ l.2.length ∧ l.2.length ≤ 30) ∧ ∀ x ∈ l.2, 0 ≤ x ∧ x < 24
theorem nm_net {n : Nat} {near : List (List Int)} (hn : n ≤ 7) {c : List Ltr} (hc : c.length ≤ 60) (h : ∀ l ∈ c, OnNet n near l) : NmC c := by
  refine ⟨hc, fun l hl => ?_⟩
  obtain ⟨_, u, v, pre, e, rt⟩ := h l hl
  have := rt.len
  rw [e]
  refine ⟨by simp; omega, fun x hx => ?_⟩
  have := rt.nod x hx
  omega
theorem nm_st {c : List Ltr} (hc : c.length ≤ 60) (h : ∀ l ∈ c, Stretch l) : NmC c := by
  refine ⟨hc, fun l hl => ?_⟩
  obtain ⟨_, bs, cut, nd, h4, b2, b4, c2, e⟩ := h l hl
  rw [e]
  refine ⟨by rw [List.length_drop, flat_len]; omega, fun x hx => ?_⟩
  obtain ⟨b, hb, hx⟩ := flat_mem.mp (List.mem_of_mem_drop hx)
  have := h4 b hb
  omega
theorem good_named {c : List Ltr} (h : NmC c) (f : Int → Int) : GoodC (c.map (rname f)) := by
  refine ⟨by rw [List.length_map]; exact h.1, fun l hl => ?_⟩
  obtain ⟨l0, h0, rfl⟩ := List.mem_map.mp hl
  have := (h.2 l0 h0).1
  simp only [rname, List.length_map]
  exact this
theorem good_many {c : List Ltr} (h : GoodC c) {n : Nat} (hn : n ≤ 60) : GoodC (if c = [] then [] else (List.range n).map (again c)) := by
  by_cases hz : c = []
  · rw [if_pos hz]; exact ⟨by simp, fun l hl => nomatch hl⟩
  · rw [if_neg hz]
    refine ⟨by simp; exact hn, fun l hl => ?_⟩
    obtain ⟨k, _, rfl⟩ := List.mem_map.mp hl
    have lp : 0 < c.length := List.length_pos_iff.mpr hz
    have hm : k % c.length < c.length := Nat.mod_lt _ lp
    have := h.2 _ (List.getElem_mem hm)
    simp only [again, List.getElem?_eq_getElem hm, Option.getD_some]
    exact this
end My

namespace My
open PySem L2 G
/-- crowds with simple routes, nodes that can still be named -/
def SmC (c : List Ltr) : Prop := c.length ≤ 60 ∧ ∀ l ∈ c, (1 ≤ l.2.length ∧ l.2.length ≤ 30) ∧ (∀ x ∈ l.2, 0 ≤ x ∧ x < 24) ∧ l.2.Nodup ∧ l.1 ≤ 6
/-- .. of at most m letters -/
def SpC (m : Nat) (c : List Ltr) : Prop := c.length ≤ m ∧ ∀ l ∈ c, (1 ≤ l.2.length ∧ l.2.length ≤ 30) ∧ l.2.Nodup ∧ l.1 ≤ 9
theorem sm_net {n : Nat} {near : List (List Int)} (hn : n ≤ 7) {c : List Ltr} (hc : c.length ≤ 60) (h : ∀ l ∈ c, OnNet n near l) : SmC c := by
  refine ⟨hc, fun l hl => ?_⟩
  obtain ⟨h6, u, v, pre, e, rt⟩ := h l hl
  have := rt.len
  rw [e]
  refine ⟨by simp; omega, fun x hx => ?_, rt.nd, h6⟩
  have := rt.nod x hx
  omega
theorem sm_st {c : List Ltr} (hc : c.length ≤ 60) (h : ∀ l ∈ c, Stretch l) : SmC c := by
  refine ⟨hc, fun l hl => ?_⟩
  obtain ⟨h6, bs, cut, nd, h4, b2, b4, c2, e⟩ := h l hl
  rw [e]
  refine ⟨by rw [List.length_drop, flat_len]; omega, fun x hx => ?_, (flat_nodup nd).sublist (List.drop_sublist _ _), h6⟩
  obtain ⟨b, hb, hx⟩ := flat_mem.mp (List.mem_of_mem_drop hx)
  have := h4 b hb
  omega
theorem map_nodup {α β : Type} {f : α → β} : ∀ {l : List α}, (∀ a ∈ l, ∀ b ∈ l, f a = f b → a = b) → l.Nodup → (l.map f).Nodup
  | [], _, _ => List.nodup_nil
  | x :: l, h, nd => by
    rw [List.nodup_cons] at nd
    rw [List.map_cons, List.nodup_cons]
    refine ⟨fun hm => ?_, map_nodup (fun a ha b hb => h a (List.mem_cons_of_mem _ ha) b (List.mem_cons_of_mem _ hb)) nd.2⟩
    obtain ⟨y, hy, e⟩ := List.mem_map.mp hm
    have := h y (List.mem_cons_of_mem _ hy) x (List.mem_cons_self) e
    subst this
    exact nd.1 hy
theorem sp_named {c : List Ltr} {m : Nat} (h : SmC c) (hm : c.length ≤ m) (s : Int) : SpC m (c.map (rname (nmOf s))) := by
  refine ⟨by rw [List.length_map]; exact hm, fun l hl => ?_⟩
  obtain ⟨l0, h0, rfl⟩ := List.mem_map.mp hl
  obtain ⟨a, b, nd, st⟩ := h.2 l0 h0
  simp only [rname, List.length_map]
  exact ⟨a, map_nodup (fun x hx y hy e => nmOf_inj (b x hx).1 (b x hx).2 (b y hy).1 (b y hy).2 e) nd, by omega⟩
theorem sp_again {c : List Ltr} (hz : c ≠ []) (h : ∀ l ∈ c, (1 ≤ l.2.length ∧ l.2.length ≤ 30) ∧ l.2.Nodup ∧ l.1 ≤ 6) (k : Nat) : (1 ≤ (again c k).2.length ∧ (again c k).2.length ≤ 30) ∧ (again c k).2.Nodup ∧ (again c k).1 ≤ 9 := by
  have lp : 0 < c.length := List.length_pos_iff.mpr hz
  have hm : k % c.length < c.length := Nat.mod_lt _ lp
  have := h _ (List.getElem_mem hm)
  simp only [again, List.getElem?_eq_getElem hm, Option.getD_some]
  refine ⟨this.1, this.2.1, ?_⟩
  have := this.2.2
  omega
theorem lanes_nodup {r : List Int} (h : r.Nodup) : (lanesOf r).Nodup := by
  unfold lanesOf
  refine map_nodup (fun a ha b hb e => ?_) List.nodup_range
  have ha := List.mem_range.mp ha
  have hb := List.mem_range.mp hb
  have e1 : r[a]?.getD 0 = r[b]?.getD 0 := congrArg Prod.fst e
  have ga := List.getElem?_eq_getElem (show a < r.length by omega)
  have gb := List.getElem?_eq_getElem (show b < r.length by omega)
  rw [ga, gb] at e1
  exact nd_ix h ga (by rw [gb]; exact congrArg some e1.symm)
/-! the own run is a run -/
section
variable {c : List Ltr} {at_ : List Nat} {came : List Int} {rows : List (List Int)} {beat : Int}
theorem inc_ge {s : Int} {b : List Int} (h : inc s b = true) : ∀ x ∈ b, s ≤ x := by
  induction b generalizing s with
  | nil => intro x hx; cases hx
  | cons y ys ih =>
    rw [inc, Bool.and_eq_true, decide_eq_true_eq] at h
    intro x hx
    rcases List.mem_cons.mp hx with rfl | hx
    · exact h.1
    · have := ih h.2 x hx; omega
theorem run_ok (h : RI c at_ came rows beat) (H : RJ c at_ came rows beat) (hf : ∀ k, k < c.length → aD at_ k + 1 = (rt c k).length) : okBs c rows = true ∧ Uniq c rows ∧ NoRest c rows := by
  refine ⟨okBs_iff.mpr ⟨h.lr, fun k hk => ⟨?_, H.b1 k hk⟩⟩, fun k j k' j' x hk hk' e e' => H.b3 k j k' j' x hk hk' e e', H.b4⟩
  have h1 := h.a2 k hk
  have h2 := hf k hk
  omega
theorem run_bnd (h : RI c at_ came rows beat) (H : RJ c at_ came rows beat) (hf : ∀ k, k < c.length → aD at_ k + 1 = (rt c k).length) (h60 : c.length ≤ 60) (hl : ∀ l ∈ c, (1 ≤ l.2.length ∧ l.2.length ≤ 30) ∧ l.1 ≤ 9) : ∀ r ∈ rows, r.length ≤ 29 ∧ ∀ x ∈ r, 0 ≤ x ∧ x ≤ 2000 := by
  intro r hr
  obtain ⟨k, hk, rfl⟩ := List.getElem_of_mem hr
  have hkc : k < c.length := by rw [← h.lr]; exact hk
  have e : rows[k] = rD rows k := by simp [rD, List.getElem?_eq_getElem hk]
  rw [e]
  have h1 := h.a2 k hkc
  have h2 := h.a1 k hkc
  have h3 := hl _ (List.getElem_mem hkc)
  rw [← (at_k hkc).2] at h3
  refine ⟨by omega, fun x hx => ?_⟩
  have lo := inc_ge (H.b1 k hkc) x hx
  obtain ⟨j, hj, rfl⟩ := List.mem_iff_getElem.mp hx
  have hL : j + 1 < (rt c k).length := by omega
  have hi := H.b2 k j _ _ hkc (ride_of (lanes_get hL) (List.getElem?_eq_getElem hj))
  have b6 := H.b6 9 (by omega) fun i hi' => by
    have := (hl _ (List.getElem_mem hi')).2
    rw [(at_k hi').1]; omega
  have tl := tot_le h.a1 fun l hl' => (hl l hl').1
  omega
end
end My

namespace My
open PySem L2 G
def hT (l : Ltr) : T := .lst [.int l.1, .lst (l.2.map T.int)]
theorem frT_ints (n : Nat) (xs : List Int) : (xs.map T.int).map (frT n) = xs.map T.int := by
  rw [List.map_map]
  exact List.map_congr_left fun x _ => frT_int n x
theorem fin_ints {n : Nat} {xs : List Int} : ∀ t ∈ xs.map T.int, Fin n t := fun t ht => by
  obtain ⟨x, _, rfl⟩ := List.mem_map.mp ht
  exact .int _ _
section
variable {c : List Ltr} {rows : List (List Int)}
theorem frz_handed (h60 : c.length ≤ 60) (hl : ∀ l ∈ c, l.2.length ≤ 30) : g_frozen [.lst (c.map hT)] = some (.tup (c.map ltT)) := by
  have := h_frz 7 (.lst (c.map hT)) (.lst (by rw [List.length_map]; exact lLim (by omega)) fun t ht => by
    obtain ⟨l, hlm, rfl⟩ := List.mem_map.mp ht
    refine .lst (lLim (by simp)) fun t ht => ?_
    simp only [List.mem_cons, List.not_mem_nil, or_false] at ht
    rcases ht with rfl | rfl
    · exact .int _ _
    · exact .lst (by rw [List.length_map]; exact lLim (by have := hl l hlm; omega)) fin_ints)
  have e : frT 7 (.lst (c.map hT)) = .tup (c.map ltT) := by
    show T.tup ((c.map hT).map (frT 6)) = _
    rw [List.map_map]
    congr 1
    refine List.map_congr_left fun l _ => ?_
    show T.tup [frT 5 (.int l.1), T.tup ((l.2.map T.int).map (frT 4))] = _
    rw [frT_int, frT_ints]; rfl
  rw [← e]; exact this
theorem frz_crowdT (h60 : c.length ≤ 60) (hl : ∀ l ∈ c, l.2.length ≤ 30) (w : T) (hw : w = .tup (c.map ltT) ∨ w = .lst (c.map ltT)) : g_frozen [w] = some (.tup (c.map ltT)) := by
  have inner : ∀ t ∈ c.map ltT, Fin 6 t := fun t ht => by
    obtain ⟨l, hlm, rfl⟩ := List.mem_map.mp ht
    refine .tup (lLim (by simp)) fun t ht => ?_
    simp only [List.mem_cons, List.not_mem_nil, or_false] at ht
    rcases ht with rfl | rfl
    · exact .int _ _
    · exact .tup (by rw [List.length_map]; exact lLim (by have := hl l hlm; omega)) fin_ints
  have e : (c.map ltT).map (frT 6) = c.map ltT := by
    rw [List.map_map]
    refine List.map_congr_left fun l _ => ?_
    show T.tup [frT 5 (.int l.1), T.tup ((l.2.map T.int).map (frT 4))] = _
    rw [frT_int, frT_ints]; rfl
  rcases hw with rfl | rfl
  · have := h_frz 7 (.tup (c.map ltT)) (.tup (by rw [List.length_map]; exact lLim (by omega)) inner)
    rw [show frT 7 (.tup (c.map ltT)) = .tup ((c.map ltT).map (frT 6)) from rfl, e] at this
    exact this
  · have := h_frz 7 (.lst (c.map ltT)) (.lst (by rw [List.length_map]; exact lLim (by omega)) inner)
    rw [show frT 7 (.lst (c.map ltT)) = .tup ((c.map ltT).map (frT 6)) from rfl, e] at this
    exact this
theorem frz_rowsT (h60 : rows.length ≤ 60) (hl : ∀ r ∈ rows, r.length ≤ 3000) : g_frozen [.tup (rows.map bT)] = some (.tup (rows.map bT)) ∧ g_frozen [.lst (rows.map rowT)] = some (.tup (rows.map bT)) := by
  constructor
  · have := h_frz 7 (.tup (rows.map bT)) (.tup (by rw [List.length_map]; exact lLim (by omega)) fun t ht => by
      obtain ⟨r, hr, rfl⟩ := List.mem_map.mp ht
      exact .tup (by rw [List.length_map]; exact lLim (by have := hl r hr; omega)) fin_ints)
    have e : (rows.map bT).map (frT 6) = rows.map bT := by
      rw [List.map_map]
      refine List.map_congr_left fun r _ => ?_
      show T.tup ((r.map T.int).map (frT 5)) = _
      rw [frT_ints]; rfl
    rw [show frT 7 (.tup (rows.map bT)) = .tup ((rows.map bT).map (frT 6)) from rfl, e] at this
    exact this
  · have := h_frz 7 (.lst (rows.map rowT)) (.lst (by rw [List.length_map]; exact lLim (by omega)) fun t ht => by
      obtain ⟨r, hr, rfl⟩ := List.mem_map.mp ht
      exact .lst (by rw [List.length_map]; exact lLim (by have := hl r hr; omega)) fin_ints)
    have e : (rows.map rowT).map (frT 6) = rows.map bT := by
      rw [List.map_map]
      refine List.map_congr_left fun r _ => ?_
      show T.tup ((r.map T.int).map (frT 5)) = _
      rw [frT_ints]; rfl
    rw [show frT 7 (.lst (rows.map rowT)) = .tup ((rows.map rowT).map (frT 6)) from rfl, e] at this
    exact this
end
end My

namespace My
open PySem L2 G
theorem gd_ints {n : Nat} {xs : List Int} : (xs.map T.int).all (T.gd n) = true := by
  rw [List.all_eq_true]
  intro t ht
  obtain ⟨x, _, rfl⟩ := List.mem_map.mp ht
  cases n <;> rfl
theorem gd_rows (rows : List (List Int)) : T.gd 60 (.lst (rows.map rowT)) = true := by
  show (rows.map rowT).all (T.gd 59) = true
  rw [List.all_eq_true]
  intro t ht
  obtain ⟨r, _, rfl⟩ := List.mem_map.mp ht
  exact gd_ints (n := 58)
theorem ne_same {cs : Cs} {t : T} (g : T.gd 60 t = true) : fNe (.cl t) (.cl t) cs = .ok (.cl (.bl false)) cs := by
  obtain ⟨b, e, h⟩ := f_ne (cs := cs) (peek_cl cs t) (peek_cl cs t) g g
  have : b = false := by
    cases b with
    | false => rfl
    | true => exact absurd rfl (h.mp rfl)
  rw [e, this]
end My

namespace My
open PySem L2 G
def n6 : List Int := [60, 60, 60, 60, 60, 60]
def n12 : List Int := [3, 42, 42, 3, 42, 42, 3, 42, 42, 3, 42, 42]
def c24 : List Int := [5040, 49, 8, 5040, 49, 8, 5040, 49, 8, 5040, 49, 8, 5040, 49, 8, 5040, 49, 8, 5040, 49, 8, 5040, 49, 8]
theorem m60 (cs : Cs) : fMul false (W.cl (T.lst [T.int 60])) (W.cl (T.int 6)) cs = .ok (W.cl (T.lst (n6.map T.int))) cs := rfl
theorem m3 (cs : Cs) : fMul false (W.cl (T.lst [T.int 3, T.int 42, T.int 42])) (W.cl (T.int 4)) cs = .ok (W.cl (T.lst (n12.map T.int))) cs := rfl
theorem m5 (cs : Cs) : fMul false (W.cl (T.lst [T.int 5040, T.int 49, T.int 8])) (W.cl (T.int 8)) cs = .ok (W.cl (T.lst (c24.map T.int))) cs := rfl
theorem m6 (cs : Cs) : fMul false (W.cl (T.lst [T.int 6, T.int 19683, T.int 5])) (W.cl (T.int 8)) cs = .ok (W.cl (T.lst (stS.map T.int))) cs := rfl
theorem m840 (cs : Cs) : fMul false (W.cl (T.lst [T.int 840])) (W.cl (T.int 40)) cs = .ok (W.cl (T.lst (numS.map T.int))) cs := rfl
theorem lims {n : Nat} (h : n ≤ 1000) : (n ≤ LIM) = True := by simp only [eq_iff_iff, iff_true]; unfold LIM; omega
end My

namespace My
open PySem L2 G
theorem frz_hT2 {c : List Ltr} (h60 : c.length ≤ 60) (hl : ∀ l ∈ c, l.2.length ≤ 30) : g_frozen [.lst (c.map hT2)] = some (.tup (c.map ltT)) := by
  have := h_frz 7 (.lst (c.map hT2)) (.lst (by rw [List.length_map]; exact lLim (by omega)) fun t ht => by
    obtain ⟨l, hlm, rfl⟩ := List.mem_map.mp ht
    refine .lst (lLim (by simp [lt2])) fun t ht => ?_
    simp only [lt2, List.mem_cons, List.not_mem_nil, or_false] at ht
    rcases ht with rfl | rfl
    · exact .int _ _
    · exact .tup (by rw [List.length_map]; exact lLim (by have := hl l hlm; omega)) fin_ints)
  have e : frT 7 (.lst (c.map hT2)) = .tup (c.map ltT) := by
    show T.tup ((c.map hT2).map (frT 6)) = _
    rw [List.map_map]
    congr 1
    refine List.map_congr_left fun l _ => ?_
    show T.tup [frT 5 (.int l.1), T.tup ((l.2.map T.int).map (frT 4))] = _
    rw [frT_int, frT_ints]; rfl
  rw [← e]; exact this
theorem gd_hT2 (c : List Ltr) : T.gd 60 (.lst (c.map hT2)) = true := by
  show (c.map hT2).all (T.gd 59) = true
  rw [List.all_eq_true]
  intro t ht
  obtain ⟨l, _, rfl⟩ := List.mem_map.mp ht
  show ([T.int l.1, T.tup (l.2.map T.int)]).all (T.gd 58) = true
  simp only [List.all_cons, List.all_nil, Bool.and_true, Bool.and_eq_true]
  exact ⟨rfl, gd_ints (n := 57)⟩
theorem crt_hT2 (c : List Ltr) : CrT (.lst (c.map hT2)) c (fun k => hT2 (c[k]?.getD (0, []))) (fun k => .tup ((rt c k).map T.int)) where
  len := fun cs => by rw [(sq_lst _).len, List.length_map]
  at_ := fun k hk cs => by
    rw [(sq_lst _).ix, gx_nat, List.getElem?_map, List.getElem?_eq_getElem hk]; rfl
  st := fun k hk cs => rfl
  rt_ := fun k hk cs => rfl
  rs := fun k hk => sq_tup _
theorem rwt_rowT (rows : List (List Int)) : RwT (.lst (rows.map rowT)) rows (fun k => rowT (rD rows k)) where
  len := fun cs => by rw [(sq_lst _).len, List.length_map]
  at_ := fun k hk cs => by
    rw [(sq_lst _).ix, gx_nat, List.getElem?_map, get_rD hk]; rfl
  rs := fun k hk => sq_lst _
theorem isB (b b' : Bool) (cs : Cs) : fIsB true (W.cl (T.bl b)) (W.cl (T.bl b')) cs = .ok (.cl (.bl (!decide (b = b')))) cs := by
  cases b <;> cases b' <;> rfl
def drS2 : List Int := [60, 60, 12, 3, 8, 24, 60, 5]
theorem sz_dr : ∀ s ∈ drS, 0 < s ∧ s < 1073741824 := by decide
/-- one kind asked -/
theorem one_kind {c : List Ltr} {rows : List (List Int)} {n : Nat} (R : Rw c rows n) (hl : ∀ l ∈ c, (1 ≤ l.2.length ∧ l.2.length ≤ 30) ∧ l.2.Nodup ∧ l.1 ≤ 9) {dr : List Int} (hd : Dig drS drS.length dr) {i : Nat} (hi : i < 15) (w0 w1 w2 w3 o7 o8 o9 o10 o11 w12 : Option W) :
    ∃ p8 p9 p10 p11, stepF (mgName 7) L1_law (.int (i : Nat)) [w0, w1, w2, w3, some (.cl (.lst (dr.map T.int))), some (.cl (.lst (c.map ltT))), some (.cl (.tup (rows.map bT))), o7, o8, o9, o10, o11, w12] [] = .ok (.nx [w0, w1, w2, w3, some (.cl (.lst (dr.map T.int))), some (.cl (.lst (c.map ltT))), some (.cl (.tup (rows.map bT))), some (.cl (.int i)), p8, p9, p10, p11, w12]) [] := by
  obtain ⟨c', rows', ec, C⟩ := p_changed R (q := (i : Nat)) (by omega) (by omega) hd
  have hl' : ∀ l ∈ c', l.2.length ≤ 30 ∧ l.1 ≤ 100000 := fun l h => by
    obtain ⟨l0, h0, e, s⟩ := C.cm l h
    have := hl l0 h0
    rw [e]; omega
  have hn' : ∀ k, k < c'.length → (lanesOf (rt c' k)).Nodup := fun k hk => by
    rw [(at_k hk).2]
    obtain ⟨l0, h0, e, s⟩ := C.cm _ (List.getElem_mem hk)
    rw [e]; exact lanes_nodup (hl l0 h0).2.1
  have hb' : ∀ r ∈ rows', ∀ x ∈ r, Bnd x := fun r hr => (C.rr r hr).2
  obtain ⟨v, e1, v1⟩ := p_law_is_run (crt_hT2 c') (rwt_rowT rows') C.cl hl' hb' (by have := C.rl; omega) hn'
  obtain ⟨u, e2, u1⟩ := p_is_run (tc := .lst (c'.map hT2)) (tb := .lst (rows'.map rowT)) (frz_hT2 C.cl fun l h => (hl' l h).1) (frz_rowsT C.rl fun r hr => (C.rr r hr).1).2 C.cl hl' hb' hn'
  have uv : u = v := by
    cases u <;> cases v <;> first | rfl | (exfalso; have := v1.trans u1.symm; simp at this)
  subst uv
  have cl : (1 + dr.length ≤ LIM) = True := lims' (by rw [hd.1]; decide)
  have cl2 : (0 + 1 + dr.length ≤ LIM) = True := lims' (by rw [hd.1]; decide)
  have o1 : ((0 + 1 : Nat) ≤ LIM) = True := lims' (by omega)
  have n0 := ne_same (cs := []) (gd_hT2 c')
  have n1 := ne_same (cs := []) (gd_rows rows')
  cases u with
  | true =>
    refine ⟨some (.cl (.lst [.lst (c'.map hT2), .lst (rows'.map rowT)])), some (.cl (.bl true)), some (.cl (.bl true)), some (.cl (.lst [.lst (c'.map hT2), .lst (rows'.map rowT)])), ?_⟩
    simp only [stepF, L1_law, I5_law, I6_law, ↓bindM, ev, ef, ↓reduceIte, el, o1, cl, cl2, List.length_map, List.cons_append, List.nil_append, ec, e1, e2, isB, n0, n1]
  | false =>
    refine ⟨some (.cl (.lst [.lst (c'.map hT2), .lst (rows'.map rowT)])), some (.cl (.bl false)), some (.cl (.bl false)), some (.cl (.lst [.lst (c'.map hT2), .lst (rows'.map rowT)])), ?_⟩
    simp only [stepF, L1_law, I5_law, I6_law, ↓bindM, ev, ef, ↓reduceIte, el, o1, cl, cl2, List.length_map, List.cons_append, List.nil_append, ec, e1, e2, isB, n0, n1]
section
variable {script : T} {net near row : W} {dr : List Int} {c1v : Int}
theorem law75_I1 (hm : Dig drS drS.length dr) (hc : g_law_cell [script, .int 1] = some (.int c1v)) {k0 : List Ltr} (h0 : SmC k0) (h59 : k0.length ≤ 59) : ∃ k1, SmC k1 ∧ k1.length ≤ 59 ∧ I1_law [some (.cl script), some net, some near, some row, some (.cl (.lst (dr.map T.int))), some (.cl (.lst (k0.map ltT))), none, none, none, none, none, none, none] [] =
    .ok (.nx [some (.cl script), some net, some near, some row, some (.cl (.lst (dr.map T.int))), some (.cl (.lst (k1.map ltT))), none, none, none, none, none, none, none]) [] := by
  obtain ⟨d2, g2, _, _⟩ := dig_get hm (j := 4) (s := 8) rfl
  obtain ⟨d5, g5, d50, d51⟩ := dig_get hm (j := 7) (s := 5) rfl
  have i2 : atI (dr.map T.int) 4 = some (T.int d2) := by rw [show (4 : Int) = ((4 : Nat) : Int) from rfl, gx_nat]; exact ints_get g2
  have i5 : atI (dr.map T.int) 7 = some (T.int d5) := by rw [show (7 : Int) = ((7 : Nat) : Int) from rfl, gx_nat]; exact ints_get g5
  have z2 : (0 : Int) < 2 := by decide
  by_cases hq : d2 % 2 = 0
  · have dd : decide (d2 % 2 = 0) = true := decide_eq_true hq
    obtain ⟨rs, hrs, ers⟩ := p_digits c1v stS sz_st (by decide)
    obtain ⟨m, hm4⟩ := Int.eq_ofNat_of_zero_le (show 0 ≤ 4 + d5 by omega)
    have hR : StRow m ((m : Int) :: rs) := by
      refine ⟨by omega, rfl, fun k hk => ?_⟩
      have hk8 : k < 8 := by omega
      have f0 : ∀ k, k < 8 → stS[3 * k]? = some 6 ∧ stS[3 * k + 1]? = some 19683 ∧ stS[3 * k + 2]? = some 5 := by decide
      obtain ⟨s0, s1, s2⟩ := f0 k hk8
      obtain ⟨a, ga, a0, a1⟩ := dig_get hrs s0
      obtain ⟨b, gb, _, _⟩ := dig_get hrs s1
      obtain ⟨e, ge, e0, e1⟩ := dig_get hrs s2
      refine ⟨a, b, e, ?_, ?_, ?_, a0, a1, e0, e1⟩
      · rw [show 1 + 3 * k = 3 * k + 1 by omega, List.getElem?_cons_succ]; exact ga
      · rw [show 2 + 3 * k = 3 * k + 1 + 1 by omega, List.getElem?_cons_succ]; exact gb
      · rw [show 3 + 3 * k = 3 * k + 2 + 1 by omega, List.getElem?_cons_succ]; exact ge
    obtain ⟨k1, l1, st1, e1⟩ := p_stretches hR
    refine ⟨k1, sm_st (by omega) st1, by omega, ?_⟩
    rw [List.map_cons] at e1
    have lr : (0 + 1 + rs.length ≤ LIM) = True := lims (by rw [hrs.1]; decide)
    simp only [I1_law, ↓bindM, ev, ef, ↓reduceIte, el, i2, i5, z2, dd, hm4, hc, m6, ers, lims (show 0 + 1 ≤ 1000 by omega), lims (show 0 + 1 + 1 + 1 ≤ 1000 by omega), List.length_map, lr, List.cons_append, List.nil_append, e1]
  · have dd : decide (d2 % 2 = 0) = false := decide_eq_false hq
    exact ⟨k0, h0, h59, by simp only [I1_law, ↓bindM, ev, ef, ↓reduceIte, el, i2, z2, dd]⟩
theorem law75_I2 (hm : Dig drS drS.length dr) {k0 : List Ltr} (h0 : SmC k0) (h59 : k0.length ≤ 59) (s : Int) : ∃ k1, SpC 59 k1 ∧ I2_law [some (.cl script), some net, some near, some row, some (.cl (.lst (dr.map T.int))), some (.cl (.lst ((k0.map (rname (nmOf s))).map ltT))), none, none, none, none, none, none, none] [] =
    .ok (.nx [some (.cl script), some net, some near, some row, some (.cl (.lst (dr.map T.int))), some (.cl (.lst (k1.map ltT))), none, none, none, none, none, none, none]) [] := by
  obtain ⟨d2, g2, _, _⟩ := dig_get hm (j := 4) (s := 8) rfl
  obtain ⟨d4, g4, d40, d41⟩ := dig_get hm (j := 6) (s := 60) rfl
  have i2 : atI (dr.map T.int) 4 = some (T.int d2) := by rw [show (4 : Int) = ((4 : Nat) : Int) from rfl, gx_nat]; exact ints_get g2
  have i4 : atI (dr.map T.int) 6 = some (T.int d4) := by rw [show (6 : Int) = ((6 : Nat) : Int) from rfl, gx_nat]; exact ints_get g4
  by_cases hq : d2 = 7
  · have dd : decide (d2 = 7) = true := decide_eq_true hq
    obtain ⟨m, rfl⟩ := Int.eq_ofNat_of_zero_le d40
    have e1 := p_many (k0.map (rname (nmOf s))) m (by rw [List.length_map]; omega) (by omega)
    refine ⟨(if k0.map (rname (nmOf s)) = [] then [] else (List.range m).map (again (k0.map (rname (nmOf s))))), ?_, by simp only [I2_law, ↓bindM, ev, ef, ↓reduceIte, el, i2, i4, dd, e1]⟩
    by_cases hz : k0.map (rname (nmOf s)) = []
    · rw [if_pos hz]; exact ⟨by simp, fun l hl => nomatch hl⟩
    · rw [if_neg hz]
      refine ⟨by simp; omega, fun l hl => ?_⟩
      obtain ⟨k, _, rfl⟩ := List.mem_map.mp hl
      refine sp_again hz (fun l hl => ?_) k
      obtain ⟨l0, hl0, rfl⟩ := List.mem_map.mp hl
      obtain ⟨a, b, nd, st⟩ := h0.2 l0 hl0
      simp only [rname, List.length_map]
      exact ⟨a, map_nodup (fun x hx y hy e => nmOf_inj (b x hx).1 (b x hx).2 (b y hy).1 (b y hy).2 e) nd, st⟩
  · have dd : decide (d2 = 7) = false := decide_eq_false hq
    exact ⟨_, sp_named h0 h59 s, by simp only [I2_law, ↓bindM, ev, ef, ↓reduceIte, el, i2, dd]⟩
end
theorem p_law (xs : List Int) : g_law [.scr (xs.map .int)] = some (.bl true) := by
  obtain ⟨c0, hc0⟩ := p_cell xs 0 (by omega)
  obtain ⟨c1, hc1⟩ := p_cell xs 1 (by omega)
  obtain ⟨c2, hc2⟩ := p_cell xs 2 (by omega)
  obtain ⟨c3, hc3⟩ := p_cell xs 3 (by omega)
  change g_law_cell [.scr (xs.map .int), .int 0] = _ at hc0
  change g_law_cell [.scr (xs.map .int), .int 1] = _ at hc1
  change g_law_cell [.scr (xs.map .int), .int 2] = _ at hc2
  change g_law_cell [.scr (xs.map .int), .int 3] = _ at hc3
  generalize T.scr (xs.map T.int) = script at hc0 hc1 hc2 hc3
  -- the net
  obtain ⟨nrow, hnr, enr⟩ := p_digits c0 netS sz_net (by decide)
  change g_law_digits [.int c0, .lst (T.int 8 :: (n6.map T.int ++ n12.map T.int))] = _ at enr
  obtain ⟨n, L, n1, _, n7, hL, hcon, hLl, enet⟩ := p_net nrow (netRow hnr) (up := 6) (by omega) (by omega)
  change g_law_net [.lst (nrow.map .int), .int 6] = _ at enet
  obtain ⟨near, hnl, hnb, enear⟩ := p_near n L hL (by omega) (by omega)
  have hN := near_of n7 hL hnl hnb
  -- the crowd
  obtain ⟨row, hrow, erow⟩ := p_digits c1 crowdS sz_crowd (by decide)
  change g_law_digits [.int c1, .lst (T.int 9 :: T.int 3 :: c24.map T.int)] = _ at erow
  obtain ⟨dr, hdr, edr⟩ := p_digits c3 drS sz_dr (by decide)
  change g_law_digits [.int c3, .lst [.int 60, .int 60, .int 12, .int 3, .int 8, .int 24, .int 60, .int 5]] = _ at edr
  obtain ⟨nums, hnums, enums⟩ := p_digits c2 numS sz_num (by decide)
  obtain ⟨r0, g0, r00, r01⟩ := dig_get hrow (j := 0) (s := 9) rfl
  obtain ⟨t, ht, hm⟩ := gx_in (xs := [T.int 8, .int 0, .int 1, .int 3, .int 4, .int 5, .int 6, .int 7, .int 8]) r00 r01
  obtain ⟨m, rfl, m8⟩ : ∃ s : Nat, t = .int s ∧ s ≤ 8 := by
    simp only [List.mem_cons, List.not_mem_nil, or_false] at hm
    rcases hm with h | h | h | h | h | h | h | h | h
    · exact ⟨8, h, by omega⟩
    · exact ⟨0, h, by omega⟩
    · exact ⟨1, h, by omega⟩
    · exact ⟨3, h, by omega⟩
    · exact ⟨4, h, by omega⟩
    · exact ⟨5, h, by omega⟩
    · exact ⟨6, h, by omega⟩
    · exact ⟨7, h, by omega⟩
    · exact ⟨8, h, by omega⟩
  have hCR : CrowdRow m ((m : Int) :: row.drop 1) := by
    have hl : crowdS.length = 26 := rfl
    refine ⟨m8, rfl, fun k hk => ?_, fun k hk => ?_⟩
    · cases k with
      | zero => exact ⟨m, rfl, by omega⟩
      | succ k =>
        have hk2 : 1 + k < crowdS.length := by omega
        obtain ⟨d, a, b, _⟩ := dig_get hrow (List.getElem?_eq_getElem hk2)
        exact ⟨d, by rw [List.getElem?_cons_succ, List.getElem?_drop]; exact a, b⟩
    · have f0 : ∀ k, k < 8 → crowdS[1 + (3 + 3 * k)]? = some 8 := by decide
      obtain ⟨d, a, b, e⟩ := dig_get hrow (f0 k hk)
      exact ⟨d, by rw [show 4 + 3 * k = 3 + 3 * k + 1 by omega, List.getElem?_cons_succ, List.getElem?_drop]; exact a, b, e⟩
  obtain ⟨k0, hk0, on0, ecr⟩ := p_crowd hN n1 (fun u v u0 u1 v0 v1 => rch_of hL hnl hnb (hcon u v u0 u1 v0 v1)) hCR
  rw [List.map_cons] at ecr
  have cf : cutL (row.map T.int) (some 1) none = (row.drop 1).map T.int := by
    have := cut_from (row.map T.int) 1
    rw [List.map_drop]; exact this
  have sm0 := sm_net n7 (by omega) on0
  obtain ⟨k1, sm1, l1, eI1⟩ := law75_I1 (net := .cl (.lst [.int n, .lst (L.map pT)])) (near := .cl (.lst (near.map rowT))) (row := .cl (.lst (row.map T.int))) hdr hc1 sm0 (by omega)
  obtain ⟨d5, g5, _, _⟩ := dig_get hdr (j := 5) (s := 24) rfl
  have i5 : atI (dr.map T.int) 5 = some (T.int d5) := by rw [show (5 : Int) = ((5 : Nat) : Int) from rfl, gx_nat]; exact ints_get g5
  have enm := p_named k1 d5 (by omega) (fun l hl => ⟨by have := ((sm1.2 l hl).1).2; omega, (sm1.2 l hl).2.1⟩)
  obtain ⟨k2, sp2, eI2⟩ := law75_I2 (script := script) (net := .cl (.lst [.int n, .lst (L.map pT)])) (near := .cl (.lst (near.map rowT))) (row := .cl (.lst (row.map T.int))) hdr sm1 l1 d5
  -- the own run
  obtain ⟨at_, came, rows, beat, us, ⟨hI, hJ⟩, hf, eR⟩ := p_run (crowd := k2) (nums := nums) (by have := sp2.1; omega) (fun l hl => (sp2.2 l hl).1) (by rw [hnums.1]; decide)
  have rb := run_bnd hI hJ hf (by have := sp2.1; omega) fun l hl => ⟨(sp2.2 l hl).1, (sp2.2 l hl).2.2⟩
  have ok := run_ok hI hJ hf
  have R : Rw k2 rows k2.length := ⟨hI.lr, rfl, sp2.1, fun r hr => by have := (rb r hr).1; omega, fun r hr x hx => by have := (rb r hr).2 x hx; omega⟩
  have l60 : k2.length ≤ 60 := by have := sp2.1; omega
  have r60 : rows.length ≤ 60 := by rw [hI.lr]; exact l60
  have ll : ∀ l ∈ k2, l.2.length ≤ 30 ∧ l.1 ≤ 100000 := fun l hl => by have := sp2.2 l hl; omega
  have ln : ∀ k, k < k2.length → (lanesOf (rt k2 k)).Nodup := fun k hk => by rw [(at_k hk).2]; exact lanes_nodup (sp2.2 _ (List.getElem_mem hk)).2.1
  have bb : ∀ r ∈ rows, ∀ x ∈ r, Bnd x := fun r hr x hx => by have := (rb r hr).2 x hx; unfold Bnd; omega
  have fc := frz_crowdT l60 (fun l hl => (ll l hl).1) (.lst (k2.map ltT)) (.inr rfl)
  have fr := frz_rowsT r60 fun r hr => by have := (rb r hr).1; omega
  obtain ⟨v1, e1, q1⟩ := p_is_run (tc := .lst (k2.map ltT)) (tb := .tup (rows.map bT)) fc fr.1 l60 ll bb ln
  obtain ⟨v2, e2, q2⟩ := p_is_run (tc := .lst (k2.map ltT)) (tb := .lst (rows.map rowT)) fc fr.2 l60 ll bb ln
  have t1 := q1.mpr ok
  have t2 := q2.mpr ok
  subst t1 t2
  have fe : g_frozen [.lst []] = some (.tup []) := h_frz 7 (.lst []) (.lst (by simp) fun t ht => nomatch ht)
  have fe2 : g_frozen [.lst [.lst []]] = some (.tup [.tup []]) := h_frz 7 (.lst [.lst []]) (.lst (by simp; unfold LIM; omega) fun t ht => by
    have : t = .lst [] := by simpa using ht
    subst this
    exact .lst (by simp) fun t ht => nomatch ht)
  obtain ⟨v3, e3, q3⟩ := p_is_run (tc := .lst []) (tb := .lst []) (c := []) (rows := []) fe fe (by simp) (fun l hl => nomatch hl) (fun r hr => nomatch hr) (fun k hk => by simp at hk)
  obtain ⟨v4, e4, q4⟩ := p_is_run (tc := .lst []) (tb := .lst [.lst []]) (c := []) (rows := [[]]) fe fe2 (by simp) (fun l hl => nomatch hl) (fun r hr x hx => by
    have : r = [] := by simpa using hr
    subst this; cases hx) (fun k hk => by simp at hk)
  have t3 : v3 = true := q3.mpr ⟨rfl, fun k j k' j' x hk => by simp at hk, fun k j L t hk => by simp at hk⟩
  have t4 : v4 = false := by
    cases v4 with
    | false => rfl
    | true => have := (q4.mp rfl).1; simp [okBs] at this
  subst t3 t4
  have eC1 : C1_law [some (.cl script), some (.cl (.lst [.int n, .lst (L.map pT)])), some (.cl (.lst (near.map rowT))), some (.cl (.lst (row.map T.int))), some (.cl (.lst (dr.map T.int))), some (.cl (.lst (k2.map ltT))), some (.cl (.tup (rows.map bT))), none, none, none, none, none, none] [] = .ok (.cl (.lst (rows.map rowT))) [] := by
    unfold C1_law
    have := mlc_all (vs := [12]) (mi := mSeq (mVar 6)) (mg := mgName 12) (me := E1_law) (ρ := [some (.cl script), some (.cl (.lst [.int n, .lst (L.map pT)])), some (.cl (.lst (near.map rowT))), some (.cl (.lst (row.map T.int))), some (.cl (.lst (dr.map T.int))), some (.cl (.lst (k2.map ltT))), some (.cl (.tup (rows.map bT))), none, none, none, none, none, none]) (cs := []) (cs1 := []) bT rowT id rows (by simp only [↓bindM, ev, ef, el]) (lLim (by omega)) fun r hr => ⟨_, rfl, by simp only [E1_law, bT, rowT, ↓bindM, ev, ef, el, id]⟩
    rw [List.map_id] at this
    exact this
  have z : ((0 : Nat) ≤ LIM) = True := lims' (by omega)
  have o1 : ((0 + 1 : Nat) ≤ LIM) = True := lims' (by omega)
  -- the loop
  obtain ⟨ρ', cs', efor, rfl, p7, p8, p9, p10, p11, rfl⟩ := for_rng0 (mg := mgName 7) (mb := L1_law) (n := 15) (fun i ρ cs => cs = [] ∧ ∃ o7 o8 o9 o10 o11, ρ = [some (.cl script), some (.cl (.lst [.int n, .lst (L.map pT)])), some (.cl (.lst (near.map rowT))), some (.cl (.lst (row.map T.int))), some (.cl (.lst (dr.map T.int))), some (.cl (.lst (k2.map ltT))), some (.cl (.tup (rows.map bT))), o7, o8, o9, o10, o11, none])
    (fun i ρ cs hi ⟨h1, o7, o8, o9, o10, o11, h2⟩ => by
      subst h1 h2
      obtain ⟨p8, p9, p10, p11, e⟩ := one_kind R sp2.2 hdr hi (some (.cl script)) (some (.cl (.lst [.int n, .lst (L.map pT)]))) (some (.cl (.lst (near.map rowT)))) (some (.cl (.lst (row.map T.int)))) o7 o8 o9 o10 o11 none
      exact ⟨_, _, e, rfl, some (.cl (.int i)), p8, p9, p10, p11, rfl⟩)
    (ρ := [some (.cl script), some (.cl (.lst [.int n, .lst (L.map pT)])), some (.cl (.lst (near.map rowT))), some (.cl (.lst (row.map T.int))), some (.cl (.lst (dr.map T.int))), some (.cl (.lst (k2.map ltT))), some (.cl (.tup (rows.map bT))), none, none, none, none, none, none]) (cs := []) ⟨rfl, none, none, none, none, none, rfl⟩
  have r15 : inB 3999999999999 15 = true := by decide
  have t15 : Int.toNat 15 = 15 := rfl
  have eS1 := sfor_ok (mi := mRng1 (mCons (mC (.int 15)) mNil)) (cs := []) (by simp only [↓bindM, ev, ef, ↓reduceIte, el, r15, t15]) efor
  rw [← S1_law] at eS1
  have lr : (0 + 1 + (row.length - 1) ≤ LIM) = True := lims (by rw [hrow.1]; decide)
  have eI3 : I3_law [some (.cl script), some (.cl (.lst [.int n, .lst (L.map pT)])), some (.cl (.lst (near.map rowT))), some (.cl (.lst (row.map T.int))), some (.cl (.lst (dr.map T.int))), some (.cl (.lst (k2.map ltT))), some (.cl (.tup (rows.map bT))), none, none, none, none, none, none] [] = .ok (.nx [some (.cl script), some (.cl (.lst [.int n, .lst (L.map pT)])), some (.cl (.lst (near.map rowT))), some (.cl (.lst (row.map T.int))), some (.cl (.lst (dr.map T.int))), some (.cl (.lst (k2.map ltT))), some (.cl (.tup (rows.map bT))), none, none, none, none, none, none]) [] := by
    simp only [I3_law, ↓bindM, ev, ef, ↓reduceIte, el, eC1, e1, e2, isB, decide_true]
  have eI4 : ∀ ρ : G.Loc, I4_law ρ [] = .ok (.nx ρ) [] := fun ρ => by
    simp only [I4_law, ↓bindM, ev, ef, ↓reduceIte, el, z, o1, e3, e4, isB, decide_true]
  refine run_cl (ρ := [some (.cl script), none, none, none, none, none, none, none, none, none, none, none, none]) (cs := []) rfl ?_
  simp only [m_law, ↓bindM, ev, ef, ↓reduceIte, el, hc0, hc1, hc2, hc3, m60, m3, m5, m840, lims (show 0 + 1 ≤ 1000 by omega), lims (show 0 + 1 + 1 ≤ 1000 by omega), lims (show 0 + 1 + 1 + 1 ≤ 1000 by omega), lims (show 0 + 1 + 1 + 1 + 1 + 1 + 1 + 1 + 1 ≤ 1000 by omega), lims (show 0 + 1 + 1 + 1 + 1 + 1 + 1 + 1 + 1 + 1 ≤ 1000 by omega), List.cons_append, List.nil_append, List.length_map, List.length_append, List.length_drop,
    lims (show 0 + 1 + n6.length ≤ 1000 by decide), lims (show 0 + 1 + n6.length + n12.length ≤ 1000 by decide), lims (show n6.length + 1 + n12.length ≤ 1000 by decide), lims (show 0 + 1 + 1 + c24.length ≤ 1000 by decide), enr, enet, enear, erow, edr, enums, ints_get g0, ht, cf, lr, ecr, eI1, i5, enm, eI2, eR, eI3, eI4, eS1]
end My

namespace My
open PySem L2 G
def spLaw (K : PySem.W.Frag) : Sp := fun vs H Q _ => ∃ (a : Addr) (ns : List Int), vs = [.ref a] ∧ SqL K H a (ns.map V.int) ∧ ns.length ≤ 63 ∧ ∀ H', Q (.bl true) H'
theorem reps_ints {K : Fg} {B : Hp} : ∀ ns : List Int, Reps K B (ns.map V.int) (ns.map T.int)
  | [] => .nil
  | n :: ns => .cons (.int n) (reps_ints ns)
theorem sp_law {K : PySem.W.Frag} {w : World} {vs : List V} {H : Hp} {Q : VK} {E : XK} (h : spLaw K vs H Q E) : spT ⟨K, w⟩ 1 g_law vs H Q E := by
  obtain ⟨a, ns, rfl, hS, _, hq⟩ := h
  exact ⟨rfl, H, [.scr (ns.map T.int)], .bl true, Same.refl _, .cons (.scr hS (reps_ints ns)) .nil, p_law ns, fun v B' H' _ _ _ _ r => by cases r; exact hq H'⟩
theorem all_mk {l : PySem.W.OpenLaw} {w : World} {K : PySem.W.Frag} {h : Heap} {mg : Str → Option Value} {fa f0 f1 f2 f3 f4 f5 f6 f7 f8 f9 f10 f11 f12 f13 f14 f15 f16 f17 f18 f19 : Addr} (X : K.In h) (G : h.Ns mainGlobals mg) (hfa : mg "law" = some (.ref fa))
    {od0 an0 od1 an1 od2 an2 od3 an3 od4 an4 od5 an5 od6 an6 od7 an7 od8 an8 od9 an9 od10 an10 od11 an11 od12 an12 od13 an13 od14 an14 od15 an15 od16 an16 od17 an17 od18 an18 od19 an19 : Option Addr} {sl0 sl1 sl2 sl3 sl4 sl5 sl6 sl7 sl8 sl9 sl10 sl11 sl12 sl13 sl14 sl15 sl16 sl17 sl18 sl19 : Array (Option Value)} {oc0 kV0 dc0 pm0 cd0 ct0 oc1 kV1 dc1 pm1 cd1 ct1 oc2 kV2 dc2 pm2 cd2 ct2 oc3 kV3 dc3 pm3 cd3 ct3 oc4 kV4 dc4 pm4 cd4 ct4 oc5 kV5 dc5 pm5 cd5 ct5 oc6 kV6 dc6 pm6 cd6 ct6 oc7 kV7 dc7 pm7 cd7 ct7 oc8 kV8 dc8 pm8 cd8 ct8 oc9 kV9 dc9 pm9 cd9 ct9 oc10 kV10 dc10 pm10 cd10 ct10 oc11 kV11 dc11 pm11 cd11 ct11 oc12 kV12 dc12 pm12 cd12 ct12 oc13 kV13 dc13 pm13 cd13 ct13 oc14 kV14 dc14 pm14 cd14 ct14 oc15 kV15 dc15 pm15 cd15 ct15 oc16 kV16 dc16 pm16 cd16 ct16 oc17 kV17 dc17 pm17 cd17 ct17 oc18 kV18 dc18 pm18 cd18 ct18 oc19 kV19 dc19 pm19 cd19 ct19 : Value}
    (a0 : PySem.W.nsIn K mainGlobals "_law_net" = some (some (.ref f0))) (l0 : K.lookup f0 = some ⟨oc0, od0, .func (PySem.W.fnOf "_law_net" "_law_net" (defArgs st_law_net) (defBody st_law_net) (defScope st_law_net) .none kV0 dc0 pm0 an0 cd0 ct0), sl0⟩) (c0 : PySem.W.codeIn K cd0 "_law_net" = true) (k0 : PySem.W.keepIn K (.ref f0) = true)
    (a1 : PySem.W.nsIn K mainGlobals "_law_digits" = some (some (.ref f1))) (l1 : K.lookup f1 = some ⟨oc1, od1, .func (PySem.W.fnOf "_law_digits" "_law_digits" (defArgs st_law_digits) (defBody st_law_digits) (defScope st_law_digits) .none kV1 dc1 pm1 an1 cd1 ct1), sl1⟩) (c1 : PySem.W.codeIn K cd1 "_law_digits" = true) (k1 : PySem.W.keepIn K (.ref f1) = true)
    (a2 : PySem.W.nsIn K mainGlobals "_law_cell" = some (some (.ref f2))) (l2 : K.lookup f2 = some ⟨oc2, od2, .func (PySem.W.fnOf "_law_cell" "_law_cell" (defArgs st_law_cell) (defBody st_law_cell) (defScope st_law_cell) .none kV2 dc2 pm2 an2 cd2 ct2), sl2⟩) (c2 : PySem.W.codeIn K cd2 "_law_cell" = true) (k2 : PySem.W.keepIn K (.ref f2) = true)
    (a3 : PySem.W.nsIn K mainGlobals "_law_near" = some (some (.ref f3))) (l3 : K.lookup f3 = some ⟨oc3, od3, .func (PySem.W.fnOf "_law_near" "_law_near" (defArgs st_law_near) (defBody st_law_near) (defScope st_law_near) .none kV3 dc3 pm3 an3 cd3 ct3), sl3⟩) (c3 : PySem.W.codeIn K cd3 "_law_near" = true) (k3 : PySem.W.keepIn K (.ref f3) = true)
    (a4 : PySem.W.nsIn K mainGlobals "_law_reaches" = some (some (.ref f4))) (l4 : K.lookup f4 = some ⟨oc4, od4, .func (PySem.W.fnOf "_law_reaches" "_law_reaches" (defArgs st_law_reaches) (defBody st_law_reaches) (defScope st_law_reaches) .none kV4 dc4 pm4 an4 cd4 ct4), sl4⟩) (c4 : PySem.W.codeIn K cd4 "_law_reaches" = true) (k4 : PySem.W.keepIn K (.ref f4) = true)
    (a5 : PySem.W.nsIn K mainGlobals "_law_free_route" = some (some (.ref f5))) (l5 : K.lookup f5 = some ⟨oc5, od5, .func (PySem.W.fnOf "_law_free_route" "_law_free_route" (defArgs st_law_free_route) (defBody st_law_free_route) (defScope st_law_free_route) .none kV5 dc5 pm5 an5 cd5 ct5), sl5⟩) (c5 : PySem.W.codeIn K cd5 "_law_free_route" = true) (k5 : PySem.W.keepIn K (.ref f5) = true)
    (a6 : PySem.W.nsIn K mainGlobals "_law_crowd" = some (some (.ref f6))) (l6 : K.lookup f6 = some ⟨oc6, od6, .func (PySem.W.fnOf "_law_crowd" "_law_crowd" (defArgs st_law_crowd) (defBody st_law_crowd) (defScope st_law_crowd) .none kV6 dc6 pm6 an6 cd6 ct6), sl6⟩) (c6 : PySem.W.codeIn K cd6 "_law_crowd" = true) (k6 : PySem.W.keepIn K (.ref f6) = true)
    (a7 : PySem.W.nsIn K mainGlobals "_law_stretches" = some (some (.ref f7))) (l7 : K.lookup f7 = some ⟨oc7, od7, .func (PySem.W.fnOf "_law_stretches" "_law_stretches" (defArgs st_law_stretches) (defBody st_law_stretches) (defScope st_law_stretches) .none kV7 dc7 pm7 an7 cd7 ct7), sl7⟩) (c7 : PySem.W.codeIn K cd7 "_law_stretches" = true) (k7 : PySem.W.keepIn K (.ref f7) = true)
    (a8 : PySem.W.nsIn K mainGlobals "_law_named" = some (some (.ref f8))) (l8 : K.lookup f8 = some ⟨oc8, od8, .func (PySem.W.fnOf "_law_named" "_law_named" (defArgs st_law_named) (defBody st_law_named) (defScope st_law_named) .none kV8 dc8 pm8 an8 cd8 ct8), sl8⟩) (c8 : PySem.W.codeIn K cd8 "_law_named" = true) (k8 : PySem.W.keepIn K (.ref f8) = true)
    (a9 : PySem.W.nsIn K mainGlobals "_law_many" = some (some (.ref f9))) (l9 : K.lookup f9 = some ⟨oc9, od9, .func (PySem.W.fnOf "_law_many" "_law_many" (defArgs st_law_many) (defBody st_law_many) (defScope st_law_many) .none kV9 dc9 pm9 an9 cd9 ct9), sl9⟩) (c9 : PySem.W.codeIn K cd9 "_law_many" = true) (k9 : PySem.W.keepIn K (.ref f9) = true)
    (a10 : PySem.W.nsIn K mainGlobals "_law_run" = some (some (.ref f10))) (l10 : K.lookup f10 = some ⟨oc10, od10, .func (PySem.W.fnOf "_law_run" "_law_run" (defArgs st_law_run) (defBody st_law_run) (defScope st_law_run) .none kV10 dc10 pm10 an10 cd10 ct10), sl10⟩) (c10 : PySem.W.codeIn K cd10 "_law_run" = true) (k10 : PySem.W.keepIn K (.ref f10) = true)
    (a11 : PySem.W.nsIn K mainGlobals "frozen" = some (some (.ref f11))) (l11 : K.lookup f11 = some ⟨oc11, od11, .func (PySem.W.fnOf "frozen" "frozen" (defArgs st_frozen) (defBody st_frozen) (defScope st_frozen) .none kV11 dc11 pm11 an11 cd11 ct11), sl11⟩) (c11 : PySem.W.codeIn K cd11 "frozen" = true) (k11 : PySem.W.keepIn K (.ref f11) = true)
    (a12 : PySem.W.nsIn K mainGlobals "are_beats" = some (some (.ref f12))) (l12 : K.lookup f12 = some ⟨oc12, od12, .func (PySem.W.fnOf "are_beats" "are_beats" (defArgs st_are_beats) (defBody st_are_beats) (defScope st_are_beats) .none kV12 dc12 pm12 an12 cd12 ct12), sl12⟩) (c12 : PySem.W.codeIn K cd12 "are_beats" = true) (k12 : PySem.W.keepIn K (.ref f12) = true)
    (a13 : PySem.W.nsIn K mainGlobals "route_lanes" = some (some (.ref f13))) (l13 : K.lookup f13 = some ⟨oc13, od13, .func (PySem.W.fnOf "route_lanes" "route_lanes" (defArgs st_route_lanes) (defBody st_route_lanes) (defScope st_route_lanes) .none kV13 dc13 pm13 an13 cd13 ct13), sl13⟩) (c13 : PySem.W.codeIn K cd13 "route_lanes" = true) (k13 : PySem.W.keepIn K (.ref f13) = true)
    (a14 : PySem.W.nsIn K mainGlobals "carriers" = some (some (.ref f14))) (l14 : K.lookup f14 = some ⟨oc14, od14, .func (PySem.W.fnOf "carriers" "carriers" (defArgs st_carriers) (defBody st_carriers) (defScope st_carriers) .none kV14 dc14 pm14 an14 cd14 ct14), sl14⟩) (c14 : PySem.W.codeIn K cd14 "carriers" = true) (k14 : PySem.W.keepIn K (.ref f14) = true)
    (a15 : PySem.W.nsIn K mainGlobals "never_rests" = some (some (.ref f15))) (l15 : K.lookup f15 = some ⟨oc15, od15, .func (PySem.W.fnOf "never_rests" "never_rests" (defArgs st_never_rests) (defBody st_never_rests) (defScope st_never_rests) .none kV15 dc15 pm15 an15 cd15 ct15), sl15⟩) (c15 : PySem.W.codeIn K cd15 "never_rests" = true) (k15 : PySem.W.keepIn K (.ref f15) = true)
    (a16 : PySem.W.nsIn K mainGlobals "is_run" = some (some (.ref f16))) (l16 : K.lookup f16 = some ⟨oc16, od16, .func (PySem.W.fnOf "is_run" "is_run" (defArgs st_is_run) (defBody st_is_run) (defScope st_is_run) .none kV16 dc16 pm16 an16 cd16 ct16), sl16⟩) (c16 : PySem.W.codeIn K cd16 "is_run" = true) (k16 : PySem.W.keepIn K (.ref f16) = true)
    (a17 : PySem.W.nsIn K mainGlobals "_law_changed" = some (some (.ref f17))) (l17 : K.lookup f17 = some ⟨oc17, od17, .func (PySem.W.fnOf "_law_changed" "_law_changed" (defArgs st_law_changed) (defBody st_law_changed) (defScope st_law_changed) .none kV17 dc17 pm17 an17 cd17 ct17), sl17⟩) (c17 : PySem.W.codeIn K cd17 "_law_changed" = true) (k17 : PySem.W.keepIn K (.ref f17) = true)
    (a18 : PySem.W.nsIn K mainGlobals "_law_is_run" = some (some (.ref f18))) (l18 : K.lookup f18 = some ⟨oc18, od18, .func (PySem.W.fnOf "_law_is_run" "_law_is_run" (defArgs st_law_is_run) (defBody st_law_is_run) (defScope st_law_is_run) .none kV18 dc18 pm18 an18 cd18 ct18), sl18⟩) (c18 : PySem.W.codeIn K cd18 "_law_is_run" = true) (k18 : PySem.W.keepIn K (.ref f18) = true)
    (a19 : PySem.W.nsIn K mainGlobals "law" = some (some (.ref f19))) (l19 : K.lookup f19 = some ⟨oc19, od19, .func (PySem.W.fnOf "law" "law" (defArgs st_law) (defBody st_law) (defScope st_law) .none kV19 dc19 pm19 an19 cd19 ct19), sl19⟩) (c19 : PySem.W.codeIn K cd19 "law" = true) (k19 : PySem.W.keepIn K (.ref f19) = true)
    (z_all : PySem.W.nsIn K mainGlobals "all" = some none)
    (z_enumerate : PySem.W.nsIn K mainGlobals "enumerate" = some none)
    (z_int : PySem.W.nsIn K mainGlobals "int" = some none)
    (z_isinstance : PySem.W.nsIn K mainGlobals "isinstance" = some none)
    (z_len : PySem.W.nsIn K mainGlobals "len" = some none)
    (z_list : PySem.W.nsIn K mainGlobals "list" = some none)
    (z_max : PySem.W.nsIn K mainGlobals "max" = some none)
    (z_min : PySem.W.nsIn K mainGlobals "min" = some none)
    (z_range : PySem.W.nsIn K mainGlobals "range" = some none)
    (z_sorted : PySem.W.nsIn K mainGlobals "sorted" = some none)
    (z_tuple : PySem.W.nsIn K mainGlobals "tuple" = some none)
    (z_zip : PySem.W.nsIn K mainGlobals "zip" = some none)
    {t_MOST_WAIT : Tok} (y_MOST_WAIT : PySem.W.nsIn K mainGlobals "MOST_WAIT" = some (some (.int 60 t_MOST_WAIT)))
    : ∃ fd : FuncData, (∀ (s : Shared) (v : Value), BindsTo s fd ⟨[v], []⟩ [("script", v)]) ∧ ∀ base : Heap, K.In base → base.Ns mainGlobals mg → FnOk l.prog w K mg base CX0 11 fa fd ["script"] (spLaw K) := by
  have e := hfa.symm.trans (PySem.W.mg_of X G a19)
  cases e
  have Tp : Top mg := ⟨PySem.W.mg_none_of X G z_all, PySem.W.mg_none_of X G z_enumerate, PySem.W.mg_none_of X G z_int, PySem.W.mg_none_of X G z_isinstance, PySem.W.mg_none_of X G z_len, PySem.W.mg_none_of X G z_list, PySem.W.mg_none_of X G z_max, PySem.W.mg_none_of X G z_min, PySem.W.mg_none_of X G z_range, PySem.W.mg_none_of X G z_sorted, PySem.W.mg_none_of X G z_tuple, PySem.W.mg_none_of X G z_zip, ⟨_, PySem.W.mg_of X G y_MOST_WAIT⟩⟩
  have F0 := fun_mk (st := st_law_net) l0 c0 k0
  have b0 := F0.binds (ps := ["row", "upto"]) fun _ _ _ _ _ _ us hl => match us, hl with | [_, _], _ => rfl
  have F1 := fun_mk (st := st_law_digits) l1 c1 k1
  have b1 := F1.binds (ps := ["cell", "sizes"]) fun _ _ _ _ _ _ us hl => match us, hl with | [_, _], _ => rfl
  have F2 := fun_mk (st := st_law_cell) l2 c2 k2
  have b2 := F2.binds (ps := ["script", "k"]) fun _ _ _ _ _ _ us hl => match us, hl with | [_, _], _ => rfl
  have F3 := fun_mk (st := st_law_near) l3 c3 k3
  have b3 := F3.binds (ps := ["size", "links"]) fun _ _ _ _ _ _ us hl => match us, hl with | [_, _], _ => rfl
  have F4 := fun_mk (st := st_law_reaches) l4 c4 k4
  have b4 := F4.binds (ps := ["near", "route", "start", "goal"]) fun _ _ _ _ _ _ us hl => match us, hl with | [_, _, _, _], _ => rfl
  have F5 := fun_mk (st := st_law_free_route) l5 c5 k5
  have b5 := F5.binds (ps := ["near", "u", "v", "number"]) fun _ _ _ _ _ _ us hl => match us, hl with | [_, _, _, _], _ => rfl
  have F6 := fun_mk (st := st_law_crowd) l6 c6 k6
  have b6 := F6.binds (ps := ["near", "row"]) fun _ _ _ _ _ _ us hl => match us, hl with | [_, _], _ => rfl
  have F7 := fun_mk (st := st_law_stretches) l7 c7 k7
  have b7 := F7.binds (ps := ["row"]) fun _ _ _ _ _ _ us hl => match us, hl with | [_], _ => rfl
  have F8 := fun_mk (st := st_law_named) l8 c8 k8
  have b8 := F8.binds (ps := ["crowd", "shift"]) fun _ _ _ _ _ _ us hl => match us, hl with | [_, _], _ => rfl
  have F9 := fun_mk (st := st_law_many) l9 c9 k9
  have b9 := F9.binds (ps := ["crowd", "size"]) fun _ _ _ _ _ _ us hl => match us, hl with | [_, _], _ => rfl
  have F10 := fun_mk (st := st_law_run) l10 c10 k10
  have b10 := F10.binds (ps := ["crowd", "order", "numbers"]) fun _ _ _ _ _ _ us hl => match us, hl with | [_, _, _], _ => rfl
  have F11 := fun_mk (st := st_frozen) l11 c11 k11
  have b11 := F11.binds (ps := ["value"]) fun _ _ _ _ _ _ us hl => match us, hl with | [_], _ => rfl
  have F12 := fun_mk (st := st_are_beats) l12 c12 k12
  have b12 := F12.binds (ps := ["crowd", "carried"]) fun _ _ _ _ _ _ us hl => match us, hl with | [_, _], _ => rfl
  have F13 := fun_mk (st := st_route_lanes) l13 c13 k13
  have b13 := F13.binds (ps := ["route"]) fun _ _ _ _ _ _ us hl => match us, hl with | [_], _ => rfl
  have F14 := fun_mk (st := st_carriers) l14 c14 k14
  have b14 := F14.binds (ps := ["crowd", "carried"]) fun _ _ _ _ _ _ us hl => match us, hl with | [_, _], _ => rfl
  have F15 := fun_mk (st := st_never_rests) l15 c15 k15
  have b15 := F15.binds (ps := ["letter", "beats", "found"]) fun _ _ _ _ _ _ us hl => match us, hl with | [_, _, _], _ => rfl
  have F16 := fun_mk (st := st_is_run) l16 c16 k16
  have b16 := F16.binds (ps := ["crowd", "carried"]) fun _ _ _ _ _ _ us hl => match us, hl with | [_, _], _ => rfl
  have F17 := fun_mk (st := st_law_changed) l17 c17 k17
  have b17 := F17.binds (ps := ["crowd", "carried", "row"]) fun _ _ _ _ _ _ us hl => match us, hl with | [_, _, _], _ => rfl
  have F18 := fun_mk (st := st_law_is_run) l18 c18 k18
  have b18 := F18.binds (ps := ["crowd", "carried"]) fun _ _ _ _ _ _ us hl => match us, hl with | [_, _], _ => rfl
  have F19 := fun_mk (st := st_law) l19 c19 k19
  have b19 := F19.binds (ps := ["script"]) fun _ _ _ _ _ _ us hl => match us, hl with | [_], _ => rfl
  refine ⟨PySem.W.fnOf "law" "law" (defArgs st_law) (defBody st_law) (defScope st_law) .none kV19 dc19 pm19 an19 cd19 ct19, fun s v => .of_eq rfl, fun base _ _ => ?_⟩
  have D_law_net : DefOk l.prog w K mg base "_law_net" 2 1 g_law_net := ⟨f0, _, _, PySem.W.mg_of X G a0, k0, b0, ok_law_net F0 Tp ⟩
  have D_law_digits : DefOk l.prog w K mg base "_law_digits" 2 1 g_law_digits := ⟨f1, _, _, PySem.W.mg_of X G a1, k1, b1, ok_law_digits F1 Tp ⟩
  have D_law_cell : DefOk l.prog w K mg base "_law_cell" 2 1 g_law_cell := ⟨f2, _, _, PySem.W.mg_of X G a2, k2, b2, ok_law_cell F2 Tp ⟩
  have D_law_near : DefOk l.prog w K mg base "_law_near" 2 1 g_law_near := ⟨f3, _, _, PySem.W.mg_of X G a3, k3, b3, ok_law_near F3 Tp ⟩
  have D_law_reaches : DefOk l.prog w K mg base "_law_reaches" 4 1 g_law_reaches := ⟨f4, _, _, PySem.W.mg_of X G a4, k4, b4, ok_law_reaches F4 Tp ⟩
  have D_law_free_route : DefOk l.prog w K mg base "_law_free_route" 4 2 g_law_free_route := ⟨f5, _, _, PySem.W.mg_of X G a5, k5, b5, ok_law_free_route F5 Tp D_law_reaches⟩
  have D_law_crowd : DefOk l.prog w K mg base "_law_crowd" 2 3 g_law_crowd := ⟨f6, _, _, PySem.W.mg_of X G a6, k6, b6, ok_law_crowd F6 Tp D_law_free_route⟩
  have D_law_stretches : DefOk l.prog w K mg base "_law_stretches" 1 1 g_law_stretches := ⟨f7, _, _, PySem.W.mg_of X G a7, k7, b7, ok_law_stretches F7 Tp ⟩
  have D_law_named : DefOk l.prog w K mg base "_law_named" 2 1 g_law_named := ⟨f8, _, _, PySem.W.mg_of X G a8, k8, b8, ok_law_named F8 Tp ⟩
  have D_law_many : DefOk l.prog w K mg base "_law_many" 2 1 g_law_many := ⟨f9, _, _, PySem.W.mg_of X G a9, k9, b9, ok_law_many F9 Tp ⟩
  have D_law_run : DefOk l.prog w K mg base "_law_run" 3 1 g_law_run := ⟨f10, _, _, PySem.W.mg_of X G a10, k10, b10, ok_law_run F10 Tp ⟩
  have D_frozen : DefOk l.prog w K mg base "frozen" 1 9 g_frozen := ⟨f11, _, _, PySem.W.mg_of X G a11, k11, b11, ok_frozen F11 b11 (PySem.W.mg_of X G a11) Tp ⟩
  have D_are_beats : DefOk l.prog w K mg base "are_beats" 2 1 g_are_beats := ⟨f12, _, _, PySem.W.mg_of X G a12, k12, b12, ok_are_beats F12 Tp ⟩
  have D_route_lanes : DefOk l.prog w K mg base "route_lanes" 1 1 g_route_lanes := ⟨f13, _, _, PySem.W.mg_of X G a13, k13, b13, ok_route_lanes F13 Tp ⟩
  have D_carriers : DefOk l.prog w K mg base "carriers" 2 2 g_carriers := ⟨f14, _, _, PySem.W.mg_of X G a14, k14, b14, ok_carriers F14 Tp D_route_lanes⟩
  have D_never_rests : DefOk l.prog w K mg base "never_rests" 3 2 g_never_rests := ⟨f15, _, _, PySem.W.mg_of X G a15, k15, b15, ok_never_rests F15 Tp D_route_lanes⟩
  have D_is_run : DefOk l.prog w K mg base "is_run" 2 10 g_is_run := ⟨f16, _, _, PySem.W.mg_of X G a16, k16, b16, ok_is_run F16 Tp D_frozen D_are_beats D_carriers D_never_rests⟩
  have D_law_changed : DefOk l.prog w K mg base "_law_changed" 3 1 g_law_changed := ⟨f17, _, _, PySem.W.mg_of X G a17, k17, b17, ok_law_changed F17 Tp ⟩
  have D_law_is_run : DefOk l.prog w K mg base "_law_is_run" 2 1 g_law_is_run := ⟨f18, _, _, PySem.W.mg_of X G a18, k18, b18, ok_law_is_run F18 Tp ⟩
  exact (ok_law F19 Tp D_law_net D_law_digits D_law_cell D_law_near D_law_crowd D_law_stretches D_law_named D_law_many D_law_run D_is_run D_law_changed D_law_is_run).imp fun vs H Q E q => sp_law q
theorem walk {l : PySem.W.OpenLaw} {q : Program} {loose : List Str} {XP : (Str → Option Value) → Heap → Prop} {YP : World → Heap → Prop} {d : DefRec} {K : Params → PySem.W.Frag} (hn : l.most = some 63) (hdf : d.params.defaults = [])
    (hY : ∀ (w : World) (h : Heap), YP w h → (K w.params).In h)
    (F : ∀ (w : World) (mg : Str → Option Value) (fa : Addr) (h : Heap), (K w.params).In h → h.Ns mainGlobals mg → mg d.name = some (.ref fa) →
      ∃ fd : FuncData, (∀ (s : Shared) (u : Value), BindsTo s fd ⟨[u], []⟩ [("script", u)]) ∧ ∀ base : Heap, (K w.params).In base → base.Ns mainGlobals mg → FnOk l.prog w (K w.params) mg base CX0 11 fa fd ["script"] (spLaw (K w.params))) :
    PySem.W.WalkO q loose XP YP l.row.toRowW d [] (fun f vs => PySem.call f vs) :=
  L2.walk_of (n := 63) (k := 11) (x := "script") (CX := fun _ => CX0) (sp := fun w => spLaw (K w.params)) hn (by decide) hdf ⟨rfl, by decide, by decide⟩ hY F (fun _ _ a ns hl _ hS => ⟨a, ns, rfl, hS, hl, fun _ => rfl⟩) fun _ _ _ _ _ z => z
end My
open PySem PySem.W PyProof.Rows
set_option maxRecDepth 100000 in
set_option maxHeartbeats 0 in
theorem PySem.Challenge.cw_nobadday_k75_runs_judged_holds : PySem.Challenge.rw_nobadday_k75_runs_judged.Holds := by
  w_on; o_law; k_head; (case hw => w_witness2)
  k_fill
  refine My.walk (l := PySem.Challenge.rw_nobadday_k75_runs_judged) rfl rfl (fun w h Y => PySem.W.kIn_of Y) ?F
  case F =>
    intro w mg fa h KX G hmg
    refine' My.all_mk KX G hmg ?a0 ?l0 ?c0 ?k0 ?a1 ?l1 ?c1 ?k1 ?a2 ?l2 ?c2 ?k2 ?a3 ?l3 ?c3 ?k3 ?a4 ?l4 ?c4 ?k4 ?a5 ?l5 ?c5 ?k5 ?a6 ?l6 ?c6 ?k6 ?a7 ?l7 ?c7 ?k7 ?a8 ?l8 ?c8 ?k8 ?a9 ?l9 ?c9 ?k9 ?a10 ?l10 ?c10 ?k10 ?a11 ?l11 ?c11 ?k11 ?a12 ?l12 ?c12 ?k12 ?a13 ?l13 ?c13 ?k13 ?a14 ?l14 ?c14 ?k14 ?a15 ?l15 ?c15 ?k15 ?a16 ?l16 ?c16 ?k16 ?a17 ?l17 ?c17 ?k17 ?a18 ?l18 ?c18 ?k18 ?a19 ?l19 ?c19 ?k19 ?z_all ?z_enumerate ?z_int ?z_isinstance ?z_len ?z_list ?z_max ?z_min ?z_range ?z_sorted ?z_tuple ?z_zip ?y_MOST_WAIT
    (case a0 => k_is)
    (case l0 => k_is)
    (case c0 => k_is)
    (case k0 => k_is)
    (case a1 => k_is)
    (case l1 => k_is)
    (case c1 => k_is)
    (case k1 => k_is)
    (case a2 => k_is)
    (case l2 => k_is)
    (case c2 => k_is)
    (case k2 => k_is)
    (case a3 => k_is)
    (case l3 => k_is)
    (case c3 => k_is)
    (case k3 => k_is)
    (case a4 => k_is)
    (case l4 => k_is)
    (case c4 => k_is)
    (case k4 => k_is)
    (case a5 => k_is)
    (case l5 => k_is)
    (case c5 => k_is)
    (case k5 => k_is)
    (case a6 => k_is)
    (case l6 => k_is)
    (case c6 => k_is)
    (case k6 => k_is)
    (case a7 => k_is)
    (case l7 => k_is)
    (case c7 => k_is)
    (case k7 => k_is)
    (case a8 => k_is)
    (case l8 => k_is)
    (case c8 => k_is)
    (case k8 => k_is)
    (case a9 => k_is)
    (case l9 => k_is)
    (case c9 => k_is)
    (case k9 => k_is)
    (case a10 => k_is)
    (case l10 => k_is)
    (case c10 => k_is)
    (case k10 => k_is)
    (case a11 => k_is)
    (case l11 => k_is)
    (case c11 => k_is)
    (case k11 => k_is)
    (case a12 => k_is)
    (case l12 => k_is)
    (case c12 => k_is)
    (case k12 => k_is)
    (case a13 => k_is)
    (case l13 => k_is)
    (case c13 => k_is)
    (case k13 => k_is)
    (case a14 => k_is)
    (case l14 => k_is)
    (case c14 => k_is)
    (case k14 => k_is)
    (case a15 => k_is)
    (case l15 => k_is)
    (case c15 => k_is)
    (case k15 => k_is)
    (case a16 => k_is)
    (case l16 => k_is)
    (case c16 => k_is)
    (case k16 => k_is)
    (case a17 => k_is)
    (case l17 => k_is)
    (case c17 => k_is)
    (case k17 => k_is)
    (case a18 => k_is)
    (case l18 => k_is)
    (case c18 => k_is)
    (case k18 => k_is)
    (case a19 => k_is)
    (case l19 => k_is)
    (case c19 => k_is)
    (case k19 => k_is)
    (case z_all => k_is)
    (case z_enumerate => k_is)
    (case z_int => k_is)
    (case z_isinstance => k_is)
    (case z_len => k_is)
    (case z_list => k_is)
    (case z_max => k_is)
    (case z_min => k_is)
    (case z_range => k_is)
    (case z_sorted => k_is)
    (case z_tuple => k_is)
    (case z_zip => k_is)
    (case y_MOST_WAIT => k_is)
