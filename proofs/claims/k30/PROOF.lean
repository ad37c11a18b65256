import PyProof.Rows.All
import Wide.All
import OpenK.AllK
import Wide.FinOn
import KE.KStateDown
import Lean
import KE.SortData
import KE.DataMinMax
import KE.DataAny
import KE.DataFind
import HandS.ForMost
import HandS.Exc
import HandS.TryOnly
import HandS.ExcOwn
import HandS.WordsExc
import HandS.Zip
import HandS.TupAny
import HandS.TupMul
import HandS.IsInst
import HandS.Wide
import HandS.TupSets
import HandS.HeadWalk
import HandS.Head0
import HandS.Head1
import HandS.Head2
import HandS.HeadEnd
import HandS.HeadHook1
import HandS.HeadHook2
import KE.KTupSum
import KE.DataCmp
import KE.DataEq
import HandS.Style
import HandS.Conv
import KE.KDictPairs
import PyProof.WalksMore
import HandS.Lambda
import HandS.HeadHook4
import PySem.Challenge.RW_sumsandrests_k30_whole_lots_of_monomials
set_option Elab.async false
set_option linter.all false
set_option maxRecDepth 100000
set_option maxHeartbeats 4000000
namespace Fw
open PySem PySem.Spec PyProof.Rows L2

/-! ## values of the small interpreter -/
abbrev P := PyData
/-- a value: pure data, or the place of a mutable object -/
inductive D where
  | p (x : P)
  | loc (n : Nat)
/-- a mutable object -/
inductive Ob where
  | lst (xs : List D)
  | dT (kvs : List (List Key × P))
  | dK (kvs : List (Key × P))
  | set (xs : List (List Int))
abbrev Sto := List Ob
abbrev Env' := List (Option D)
inductive R (α : Type) where
  | ok (a : α) (st : Sto)
  | exc (c : Nat) (st : Sto)
  | bad
/-- a computation -/
abbrev M (α : Type) := Sto → R α
def bnd {α β : Type} (m : M α) (f : α → M β) : M β := fun st => match m st with
  | .ok a st' => f a st'
  | .exc c st' => .exc c st'
  | .bad => .bad
def ret {α : Type} (a : α) : M α := fun st => .ok a st
def bad {α : Type} : M α := fun _ => .bad
def opt {α : Type} (o : Option α) : M α := fun st => match o with
  | some a => .ok a st
  | none => .bad
theorem bnd_ok {α β : Type} {m : M α} {f : α → M β} {st st' : Sto} {a : α} (h : m st = .ok a st') : bnd m f st = f a st' := by
  unfold bnd; rw [h]
theorem bnd_ret {α β : Type} {a : α} {f : α → M β} : bnd (ret a) f = f a := rfl
theorem ret_ap {α : Type} {a : α} {st : Sto} : ret a st = .ok a st := rfl

/-! ## the world: what stands still, and where the mutable objects are -/
structure Wd where
  W : Hp
  L : List Addr
  T : Hp
def ImmO : HO → Prop
  | .tup _ => True
  | .lst _ => True
  | .frz _ (.lst _) => True
  | _ => False
structure Wd.Lc (w w' : Wd) : Prop where
  W : ∀ a o, w.W a = some o → w'.W a = some o
  L : ∃ l, w'.L = w.L ++ l
structure Wd.Le (w w' : Wd) : Prop extends Wd.Lc w w' where
  T : w'.T = w.T
instance {w w' : Wd} : Coe (Wd.Le w w') (Wd.Lc w w') := ⟨Wd.Le.toLc⟩
theorem Wd.Lc.refl (w : Wd) : w.Lc w := ⟨fun _ _ h => h, [], by simp⟩
theorem Wd.Lc.trans {w w1 w2 : Wd} (h : w.Lc w1) (k : w1.Lc w2) : w.Lc w2 := ⟨fun a o e => k.W a o (h.W a o e), by
  obtain ⟨l, e⟩ := h.L
  obtain ⟨l', e'⟩ := k.L
  exact ⟨l ++ l', by rw [e', e, List.append_assoc]⟩⟩
theorem Wd.Le.refl (w : Wd) : w.Le w := ⟨Wd.Lc.refl w, rfl⟩
theorem Wd.Le.trans {w w1 w2 : Wd} (h : w.Le w1) (k : w1.Le w2) : w.Le w2 := ⟨h.toLc.trans k.toLc, k.T.trans h.T⟩
theorem Wd.Lc.get {w w' : Wd} (h : w.Lc w') {n : Nat} {a : Addr} (e : w.L[n]? = some a) : w'.L[n]? = some a := by
  obtain ⟨l, q⟩ := h.L
  rw [q]
  have := (List.getElem?_eq_some_iff.mp e).1
  rw [List.getElem?_append_left this, e]
theorem Wd.Le.get {w w' : Wd} (h : w.Le w') {n : Nat} {a : Addr} (e : w.L[n]? = some a) : w'.L[n]? = some a := h.toLc.get e

section
variable {K : PySem.W.Frag}
theorem sqL_mono {H H' : Hp} {a : Addr} {xs : List V} (h : ∀ a o, H a = some o → H' a = some o) (s : SqL K H a xs) : SqL K H' a xs := Same.seq h s
theorem sqT_mono {H H' : Hp} {a : Addr} {xs : List V} (h : ∀ a o, H a = some o → H' a = some o) (s : SqT K H a xs) : SqT K H' a xs := by
  rcases s with (s | ⟨o, s⟩) | s
  · exact .inl (.inl (h _ _ s))
  · exact .inl (.inr ⟨o, h _ _ s⟩)
  · exact .inr s
mutual
theorem Dp.mono {H H' : Hp} (h : ∀ a o, H a = some o → H' a = some o) : ∀ (d : PyData) (v : V), Dp K H v d → Dp K H' v d
  | .none, _, r => by cases r; exact .non
  | .bool b, _, r => by cases r; exact .bl b
  | .int i, _, r => by cases r; exact .int i
  | .str x, _, r => by cases r; exact .str x
  | .list ds, _, r => by
    cases r with
    | lst s a => exact .lst (sqL_mono h s) (Dp.monoA h ds _ a)
  | .tuple ds, _, r => by
    cases r with
    | tup s a => exact .tup (sqT_mono h s) (Dp.monoA h ds _ a)
  | .dict _, _, r => by cases r
theorem Dp.monoA {H H' : Hp} (h : ∀ a o, H a = some o → H' a = some o) : ∀ (ds : List PyData) (vs : List V), DpAll K H vs ds → DpAll K H' vs ds
  | [], _, r => by cases r; exact .nil
  | d :: ds, _, r => by
    cases r with
    | cons a b => exact .cons (Dp.mono h d _ a) (Dp.monoA h ds _ b)
end
theorem DpAll.length {H : Hp} : ∀ {ds : List PyData} {vs : List V}, DpAll K H vs ds → vs.length = ds.length
  | [], _, r => by cases r; rfl
  | d :: ds, _, r => by
    cases r with
    | cons a b => simp [DpAll.length b]
theorem DpAll.get {H : Hp} : ∀ {ds : List PyData} {vs : List V} {i : Nat} {d : PyData}, DpAll K H vs ds → ds[i]? = some d → ∃ v, vs[i]? = some v ∧ Dp K H v d
  | [], _, _, _, _, e => by simp at e
  | d :: ds, _, i, _, r, e => by
    cases r with
    | cons a b =>
      cases i with
      | zero => simp at e; subst e; exact ⟨_, rfl, a⟩
      | succ j =>
        obtain ⟨v, h1, h2⟩ := DpAll.get (i := j) b (by simpa using e)
        exact ⟨v, by simpa using h1, h2⟩
theorem DpAll.app {H : Hp} : ∀ {ds es : List PyData} {vs us : List V}, DpAll K H vs ds → DpAll K H us es → DpAll K H (vs ++ us) (ds ++ es)
  | [], _, _, _, r, s => by cases r; exact s
  | d :: ds, _, _, _, r, s => by
    cases r with
    | cons a b => exact .cons a (DpAll.app b s)

/-- a value stands for a datum -/
def RelD (K : PySem.W.Frag) (w : Wd) : D → V → Prop
  | .p x, v => Dp K w.W v x
  | .loc n, v => ∃ a, v = .ref a ∧ w.L[n]? = some a
theorem RelD.mono {w w' : Wd} (h : w.Lc w') : ∀ {d : D} {v : V}, RelD K w d v → RelD K w' d v
  | .p _, _, r => Dp.mono h.W _ _ r
  | .loc _, _, ⟨a, e, g⟩ => ⟨a, e, h.get g⟩
inductive RelL (K : PySem.W.Frag) (w : Wd) : List D → List V → Prop
  | nil : RelL K w [] []
  | cons {d : D} {ds : List D} {v : V} {vs : List V} : RelD K w d v → RelL K w ds vs → RelL K w (d :: ds) (v :: vs)
theorem RelL.mono {w w' : Wd} (h : w.Lc w') : ∀ {ds : List D} {vs : List V}, RelL K w ds vs → RelL K w' ds vs
  | _, _, .nil => .nil
  | _, _, .cons a b => .cons (a.mono h) (RelL.mono h b)
theorem RelL.length {w : Wd} : ∀ {ds : List D} {vs : List V}, RelL K w ds vs → ds.length = vs.length
  | _, _, .nil => rfl
  | _, _, .cons _ b => by simp [RelL.length b]
theorem RelL.get {w : Wd} : ∀ {ds : List D} {vs : List V} {i : Nat} {d : D}, RelL K w ds vs → ds[i]? = some d → ∃ v, vs[i]? = some v ∧ RelD K w d v
  | _, _, _, _, .nil, e => by simp at e
  | _, _, 0, _, .cons a b, e => by simp at e; subst e; exact ⟨_, rfl, a⟩
  | _, _, i + 1, _, .cons a b, e => by
    obtain ⟨v, h1, h2⟩ := RelL.get (i := i) b (by simpa using e)
    exact ⟨v, by simpa using h1, h2⟩
theorem RelL.get' {w : Wd} : ∀ {ds : List D} {vs : List V} {i : Nat} {v : V}, RelL K w ds vs → vs[i]? = some v → ∃ d, ds[i]? = some d ∧ RelD K w d v
  | _, _, _, _, .nil, e => by simp at e
  | _, _, 0, _, .cons a b, e => by simp at e; subst e; exact ⟨_, rfl, a⟩
  | _, _, i + 1, _, .cons a b, e => by
    obtain ⟨v, h1, h2⟩ := RelL.get' (i := i) b (by simpa using e)
    exact ⟨v, by simpa using h1, h2⟩
theorem RelL.app {w : Wd} : ∀ {ds es : List D} {vs us : List V}, RelL K w ds vs → RelL K w es us → RelL K w (ds ++ es) (vs ++ us)
  | _, _, _, _, .nil, s => s
  | _, _, _, _, .cons a b, s => .cons a (RelL.app b s)
theorem RelL.of {w : Wd} : ∀ {ds : List PyData} {vs : List V}, DpAll K w.W vs ds → RelL K w (ds.map D.p) vs
  | [], _, r => by cases r; exact .nil
  | d :: ds, _, r => by
    cases r with
    | cons a b => exact .cons a (RelL.of b)
theorem RelL.pure {w : Wd} : ∀ {ds : List PyData} {vs : List V}, RelL K w (ds.map D.p) vs → DpAll K w.W vs ds
  | [], _, r => by cases r; exact .nil
  | d :: ds, _, r => by
    cases r with
    | cons a b => exact .cons a (RelL.pure b)

/-- a mutable object as the abstract heap has it -/
def RelO (K : PySem.W.Frag) (P : Program) (ww : World) (w : Wd) : Ob → Addr → HO → Prop
  | .lst ds, _, o => ∃ vs, o = .lst vs ∧ RelL K w ds vs
  | .dT kvs, _, o => ∃ vs, o = .dT vs ∧ vs.map (·.1) = kvs.map (·.1) ∧ RelL K w (kvs.map fun q => .p q.2) (vs.map (·.2))
  | .dK kvs, _, o => ∃ vs, o = .dK vs ∧ vs.map (·.1) = kvs.map (·.1) ∧ RelL K w (kvs.map fun q => .p q.2) (vs.map (·.2))
  | .set xs, a, o => ∃ L : List (Addr × List Int), o = SetTO P ww a L ∧ (∀ k, k ∈ L.map (·.2) ↔ k ∈ xs) ∧ ∀ p ∈ L, SqT K w.W p.1 (p.2.map V.int)
theorem RelO.mono {P : Program} {ww : World} {w w' : Wd} (h : w.Lc w') : ∀ {b : Ob} {a : Addr} {o : HO}, RelO K P ww w b a o → RelO K P ww w' b a o
  | .lst _, _, _, ⟨vs, e, r⟩ => ⟨vs, e, r.mono h⟩
  | .dT _, _, _, ⟨vs, e, k, r⟩ => ⟨vs, e, k, r.mono h⟩
  | .dK _, _, _, ⟨vs, e, k, r⟩ => ⟨vs, e, k, r.mono h⟩
  | .set _, _, _, ⟨L, e, k, r⟩ => ⟨L, e, k, fun p hp => sqT_mono h.W (r p hp)⟩
theorem RelO.notTup {P : Program} {ww : World} {w : Wd} : ∀ {b : Ob} {a : Addr} {o : HO}, RelO K P ww w b a o → ¬ (∃ xs, o = .tup xs) ∧ ¬ ∃ u x, o = .frz u x
  | .lst _, _, _, ⟨vs, e, r⟩ => by subst e; exact ⟨fun ⟨_, q⟩ => (nomatch q), fun ⟨_, _, q⟩ => (nomatch q)⟩
  | .dT _, _, _, ⟨vs, e, r⟩ => by subst e; exact ⟨fun ⟨_, q⟩ => (nomatch q), fun ⟨_, _, q⟩ => (nomatch q)⟩
  | .dK _, _, _, ⟨vs, e, r⟩ => by subst e; exact ⟨fun ⟨_, q⟩ => (nomatch q), fun ⟨_, _, q⟩ => (nomatch q)⟩
  | .set _, _, _, ⟨vs, e, r⟩ => by subst e; exact ⟨fun ⟨_, q⟩ => (nomatch q), fun ⟨_, _, q⟩ => (nomatch q)⟩
/-- the places that an object names stand ahead of it -/
def Wf1 (n : Nat) : Ob → Prop
  | .lst xs => ∀ j, D.loc j ∈ xs → j < n
  | _ => True
/-- the abstract heap holds the store -/
structure Hold (K : PySem.W.Frag) (P : Program) (ww : World) (w : Wd) (st : Sto) (H : Hp) : Prop where
  imm : ∀ a o, w.W a = some o → H a = some o ∧ ImmO o
  len : w.L.length = st.length
  obs : ∀ (n : Nat) (a : Addr) (b : Ob), w.L[n]? = some a → st[n]? = some b → ∃ o, H a = some o ∧ RelO K P ww w b a o
  nd : w.L.Nodup
  ap : ∀ a ∈ w.L, w.W a = none
  wf : ∀ (n : Nat) (b : Ob), st[n]? = some b → Wf1 n b
  tmp : ∀ a o, w.T a = some o → H a = some o
  tw : ∀ a o, w.T a = some o → w.W a = none ∧ a ∉ w.L
  tt : ∀ a xs, w.T a ≠ some (.tup xs)
end
end Fw

set_option maxRecDepth 100000
set_option maxHeartbeats 4000000
namespace Fw
open PySem PySem.Spec PyProof.Rows L2

/-! ## holding: new objects -/
section
variable {K : PySem.W.Frag} {P : Program} {ww : World} {w : Wd} {st : Sto} {H : Hp}
theorem Hold.free (h : Hold K P ww w st H) {p : Addr} (n : H p = none) : w.W p = none := by
  cases q : w.W p with
  | none => rfl
  | some o => rw [(h.imm p o q).1] at n; cases n
theorem Hold.obj (h : Hold K P ww w st H) {p : Addr} (m : p ∈ w.L) : ∃ (n : Nat) (b : Ob) (o : HO), w.L[n]? = some p ∧ st[n]? = some b ∧ H p = some o ∧ RelO K P ww w b p o := by
  obtain ⟨n, e⟩ := List.mem_iff_getElem?.mp m
  have hl : n < st.length := by rw [← h.len]; exact (List.getElem?_eq_some_iff.mp e).1
  obtain ⟨o, h1, h2⟩ := h.obs n p st[n] e (by simp [hl])
  exact ⟨n, _, o, e, by simp [hl], h1, h2⟩
theorem Hold.notIn (h : Hold K P ww w st H) {p : Addr} (n : H p = none) : p ∉ w.L := fun m => by
  obtain ⟨_, _, o, _, _, q, _⟩ := h.obj m
  rw [n] at q; cases q
/-- a new object that stands still -/
def Wd.imm (w : Wd) (p : Addr) (o : HO) : Wd := ⟨upd w.W p o, w.L, w.T⟩
theorem Wd.le_imm {p : Addr} {o : HO} (n : w.W p = none) : w.Le (w.imm p o) := ⟨⟨fun a u e => by
  show upd w.W p o a = some u
  rw [upd_ne (ne_of_none e n)]; exact e, [], by simp [Wd.imm]⟩, rfl⟩
theorem Hold.imm_new (h : Hold K P ww w st H) {p : Addr} {o : HO} (n : H p = none) (i : ImmO o) : Hold K P ww (w.imm p o) st (upd H p o) := by
  have le := Wd.le_imm (w := w) (p := p) (o := o) (h.free n)
  refine ⟨fun a u e => ?_, h.len, fun k a b e1 e2 => ?_, h.nd, fun a m => ?_, h.wf, fun a u e => by rw [upd_ne (ne_of_none (h.tmp a u e) n)]; exact h.tmp a u e, fun a u e => ⟨by
    show upd w.W p o a = none
    rw [upd_ne (ne_of_none (h.tmp a u e) n)]; exact (h.tw a u e).1, (h.tw a u e).2⟩, h.tt⟩
  · by_cases q : a = p
    · subst q
      have e' : upd w.W a o a = some u := e
      rw [upd_same] at e'; cases e'
      exact ⟨upd_same, i⟩
    · have e' : upd w.W p o a = some u := e
      rw [upd_ne q] at e'
      rw [upd_ne q]
      exact h.imm a u e'
  · have e1' : w.L[k]? = some a := e1
    obtain ⟨u, h1, h2⟩ := h.obs k a b e1' e2
    exact ⟨u, by rw [upd_ne (ne_of_none h1 n)]; exact h1, h2.mono le⟩
  · have m' : a ∈ w.L := m
    have na : a ≠ p := fun q => h.notIn n (q ▸ m')
    show upd w.W p o a = none
    rw [upd_ne na]
    exact h.ap a m'
/-- a new mutable object -/
def Wd.mut (w : Wd) (p : Addr) : Wd := ⟨w.W, w.L ++ [p], w.T⟩
theorem Wd.le_mut {p : Addr} : w.Le (w.mut p) := ⟨⟨fun _ _ e => e, [p], rfl⟩, rfl⟩
theorem Hold.mut_new (h : Hold K P ww w st H) {p : Addr} {o : HO} {b : Ob} (n : H p = none) (r : RelO K P ww w b p o) (wf : Wf1 st.length b) : Hold K P ww (w.mut p) (st ++ [b]) (upd H p o) := by
  have le := Wd.le_mut (w := w) (p := p)
  refine ⟨fun a u e => ?_, by simp [Wd.mut, h.len], fun k a b' e1 e2 => ?_, ?_, fun a m => ?_, fun k b' e => ?_, fun a u e => by rw [upd_ne (ne_of_none (h.tmp a u e) n)]; exact h.tmp a u e, fun a u e => ⟨(h.tw a u e).1, fun m => ?_⟩, h.tt⟩
  · obtain ⟨e1, e2⟩ := h.imm a u e
    exact ⟨by rw [upd_ne (ne_of_none e1 n)]; exact e1, e2⟩
  · have e1' : (w.L ++ [p])[k]? = some a := e1
    by_cases q : k < st.length
    · rw [List.getElem?_append_left (by rw [h.len]; exact q)] at e1'
      rw [List.getElem?_append_left q] at e2
      obtain ⟨u, h1, h2⟩ := h.obs k a b' e1' e2
      exact ⟨u, by rw [upd_ne (ne_of_none h1 n)]; exact h1, h2.mono le⟩
    · have hk : k = st.length := by
        have := (List.getElem?_eq_some_iff.mp e2).1
        simp at this; omega
      subst hk
      rw [List.getElem?_append_right (Nat.le_refl _)] at e2
      rw [← h.len, List.getElem?_append_right (Nat.le_refl _)] at e1'
      simp at e1' e2
      subst e1' e2
      exact ⟨o, upd_same, r.mono le⟩
  · show (w.L ++ [p]).Nodup
    rw [List.nodup_append]
    refine ⟨h.nd, by simp, fun a ha b hb => ?_⟩
    simp at hb
    subst hb
    exact fun e => h.notIn n (e ▸ ha)
  · have m' : a ∈ w.L ++ [p] := m
    rcases List.mem_append.mp m' with m' | m'
    · exact h.ap a m'
    · simp at m'; subst m'; exact h.free n
  · by_cases q : k < st.length
    · rw [List.getElem?_append_left q] at e
      exact h.wf k b' e
    · have hk : k = st.length := by
        have := (List.getElem?_eq_some_iff.mp e).1
        simp at this; omega
      subst hk
      rw [List.getElem?_append_right (Nat.le_refl _)] at e
      simp at e
      subst e
      exact wf
  · have m' : a ∈ w.L ++ [p] := m
    rcases List.mem_append.mp m' with m' | m'
    · exact (h.tw a u e).2 m'
    · simp at m'
      exact ne_of_none (h.tmp a u e) n m'
/-- a mutable object written -/
theorem Hold.write (h : Hold K P ww w st H) {n : Nat} {a : Addr} {o : HO} {b : Ob} (e : w.L[n]? = some a) (r : RelO K P ww w b a o) (wf : Wf1 n b) : Hold K P ww w (st.set n b) (upd H a o) := by
  have hn : n < st.length := by rw [← h.len]; exact (List.getElem?_eq_some_iff.mp e).1
  have ma : a ∈ w.L := List.mem_of_getElem? e
  refine ⟨fun c u q => ?_, by simp [h.len], fun k c b' e1 e2 => ?_, h.nd, h.ap, fun k b' q => ?_, fun c u q => by rw [upd_ne (show c ≠ a from fun z => (h.tw c u q).2 (by rw [z]; exact ma))]; exact h.tmp c u q, h.tw, h.tt⟩
  · obtain ⟨e1, e2⟩ := h.imm c u q
    have nc : c ≠ a := fun z => by
      subst z
      rw [h.ap c ma] at q; cases q
    exact ⟨by rw [upd_ne nc]; exact e1, e2⟩
  · by_cases q : k = n
    · subst q
      rw [e] at e1; cases e1
      rw [List.getElem?_set_self hn] at e2; cases e2
      exact ⟨o, upd_same, r⟩
    · rw [List.getElem?_set_ne (Ne.symm q)] at e2
      obtain ⟨u, h1, h2⟩ := h.obs k c b' e1 e2
      have nc : c ≠ a := fun z => by
        subst z
        have h1' := (List.getElem?_eq_some_iff.mp e1)
        have h2' := (List.getElem?_eq_some_iff.mp e)
        exact q ((List.getElem_inj h.nd).mp (h1'.2.trans h2'.2.symm))
      exact ⟨u, by rw [upd_ne nc]; exact h1, h2⟩
  · by_cases z : k = n
    · subst z
      rw [List.getElem?_set_self hn] at q; cases q
      exact wf
    · rw [List.getElem?_set_ne (Ne.symm z)] at q
      exact h.wf k b' q
/-- a temporary object: laid, written, kept -/
def Wd.tmp (w : Wd) (t : Hp) : Wd := ⟨w.W, w.L, t⟩
theorem Wd.lc_tmp {t : Hp} : w.Lc (w.tmp t) := ⟨fun _ _ e => e, [], by simp [Wd.tmp]⟩
theorem Wd.tmp_lc {t : Hp} : (w.tmp t).Lc w := ⟨fun _ _ e => e, [], by simp [Wd.tmp]⟩
theorem Hold.tmp_new (h : Hold K P ww w st H) {p : Addr} {o : HO} (n : H p = none) (no : ∀ xs, o ≠ .tup xs) : Hold K P ww (w.tmp (upd w.T p o)) st (upd H p o) := by
  refine ⟨fun a u e => ?_, h.len, fun k a b e1 e2 => ?_, h.nd, h.ap, h.wf, fun a u e => ?_, fun a u e => ?_, fun a xs e => by
    by_cases q : a = p
    · subst q
      have e' : upd w.T a o a = some (.tup xs) := e
      rw [upd_same] at e'
      exact no xs (Option.some.inj e')
    · have e' : upd w.T p o a = some (.tup xs) := e
      rw [upd_ne q] at e'
      exact h.tt a xs e'⟩
  · obtain ⟨e1, e2⟩ := h.imm a u e
    exact ⟨by rw [upd_ne (ne_of_none e1 n)]; exact e1, e2⟩
  · obtain ⟨u, h1, h2⟩ := h.obs k a b e1 e2
    exact ⟨u, by rw [upd_ne (ne_of_none h1 n)]; exact h1, h2.mono Wd.lc_tmp⟩
  · by_cases q : a = p
    · subst q
      have e' : upd w.T a o a = some u := e
      rw [upd_same] at e'; cases e'
      exact upd_same
    · have e' : upd w.T p o a = some u := e
      rw [upd_ne q] at e'
      rw [upd_ne q]
      exact h.tmp a u e'
  · by_cases q : a = p
    · subst q
      exact ⟨h.free n, h.notIn n⟩
    · have e' : upd w.T p o a = some u := e
      rw [upd_ne q] at e'
      exact h.tw a u e'
theorem Hold.tmp_set (h : Hold K P ww w st H) {p : Addr} {o o' : HO} (n : w.T p = some o) (no : ∀ xs, o' ≠ .tup xs) : Hold K P ww (w.tmp (upd w.T p o')) st (upd H p o') := by
  have hp := h.tw p o n
  refine ⟨fun a u e => ?_, h.len, fun k a b e1 e2 => ?_, h.nd, h.ap, h.wf, fun a u e => ?_, fun a u e => ?_, fun a xs e => by
    by_cases q : a = p
    · subst q
      have e' : upd w.T a o' a = some (.tup xs) := e
      rw [upd_same] at e'
      exact no xs (Option.some.inj e')
    · have e' : upd w.T p o' a = some (.tup xs) := e
      rw [upd_ne q] at e'
      exact h.tt a xs e'⟩
  · obtain ⟨e1, e2⟩ := h.imm a u e
    have e' : w.W a = some u := e
    have na : a ≠ p := fun z => by
      subst z
      rw [hp.1] at e'; cases e'
    exact ⟨by rw [upd_ne na]; exact e1, e2⟩
  · obtain ⟨u, h1, h2⟩ := h.obs k a b e1 e2
    have na : a ≠ p := fun z => hp.2 (z ▸ List.mem_of_getElem? e1)
    exact ⟨u, by rw [upd_ne na]; exact h1, h2.mono Wd.lc_tmp⟩
  · by_cases q : a = p
    · subst q
      have e' : upd w.T a o' a = some u := e
      rw [upd_same] at e'; cases e'
      exact upd_same
    · have e' : upd w.T p o' a = some u := e
      rw [upd_ne q] at e'
      rw [upd_ne q]
      exact h.tmp a u e'
  · by_cases q : a = p
    · subst q
      exact hp
    · have e' : upd w.T p o' a = some u := e
      rw [upd_ne q] at e'
      exact h.tw a u e'
/-- the temporary object becomes one that stands still -/
def Wd.fix (w : Wd) (p : Addr) (o : HO) (t : Hp) : Wd := ⟨upd w.W p o, w.L, t⟩
theorem Hold.tmp_imm (h : Hold K P ww w st H) {p : Addr} {o : HO} {t : Hp} (n : w.T p = some o) (i : ImmO o) (ht : ∀ a u, t a = some u → w.T a = some u ∧ a ≠ p) : Hold K P ww (w.fix p o t) st H := by
  have hp := h.tw p o n
  have le : w.Lc (w.fix p o t) := ⟨fun a u e => by
    show upd w.W p o a = some u
    rw [upd_ne (ne_of_none e hp.1)]; exact e, [], by simp [Wd.fix]⟩
  refine ⟨fun a u e => ?_, h.len, fun k a b e1 e2 => ?_, h.nd, fun a m => ?_, h.wf, fun a u e => h.tmp a u (ht a u e).1, fun a u e => ⟨?_, (h.tw a u (ht a u e).1).2⟩, fun a xs e => h.tt a xs (ht a _ e).1⟩
  · by_cases q : a = p
    · subst q
      have e' : upd w.W a o a = some u := e
      rw [upd_same] at e'; cases e'
      exact ⟨h.tmp a o n, i⟩
    · have e' : upd w.W p o a = some u := e
      rw [upd_ne q] at e'
      exact h.imm a u e'
  · obtain ⟨u, h1, h2⟩ := h.obs k a b e1 e2
    exact ⟨u, h1, h2.mono le⟩
  · have m' : a ∈ w.L := m
    show upd w.W p o a = none
    rw [upd_ne (show a ≠ p from fun z => hp.2 (by rw [← z]; exact m'))]
    exact h.ap a m'
  · show upd w.W p o a = none
    rw [upd_ne (ht a u e).2]
    exact (h.tw a u (ht a u e).1).1
/-- the temporary object becomes a mutable one of the store -/
def Wd.put (w : Wd) (p : Addr) (t : Hp) : Wd := ⟨w.W, w.L ++ [p], t⟩
theorem Hold.tmp_mut (h : Hold K P ww w st H) {p : Addr} {o : HO} {b : Ob} {t : Hp} (n : w.T p = some o) (r : RelO K P ww w b p o) (wf : Wf1 st.length b) (ht : ∀ a u, t a = some u → w.T a = some u ∧ a ≠ p) : Hold K P ww (w.put p t) (st ++ [b]) H := by
  have hp := h.tw p o n
  have le : w.Lc (w.put p t) := ⟨fun _ _ e => e, [p], rfl⟩
  refine ⟨fun a u e => h.imm a u e, by simp [Wd.put, h.len], fun k a b' e1 e2 => ?_, ?_, fun a m => ?_, fun k b' e => ?_, fun a u e => h.tmp a u (ht a u e).1, fun a u e => ⟨(h.tw a u (ht a u e).1).1, fun m => ?_⟩, fun a xs e => h.tt a xs (ht a _ e).1⟩
  · have e1' : (w.L ++ [p])[k]? = some a := e1
    by_cases q : k < st.length
    · rw [List.getElem?_append_left (by rw [h.len]; exact q)] at e1'
      rw [List.getElem?_append_left q] at e2
      obtain ⟨u, h1, h2⟩ := h.obs k a b' e1' e2
      exact ⟨u, h1, h2.mono le⟩
    · have hk : k = st.length := by
        have := (List.getElem?_eq_some_iff.mp e2).1
        simp at this; omega
      subst hk
      rw [List.getElem?_append_right (Nat.le_refl _)] at e2
      rw [← h.len, List.getElem?_append_right (Nat.le_refl _)] at e1'
      simp at e1' e2
      subst e1' e2
      exact ⟨o, h.tmp _ _ n, r.mono le⟩
  · show (w.L ++ [p]).Nodup
    rw [List.nodup_append]
    refine ⟨h.nd, by simp, fun a ha b hb => ?_⟩
    simp at hb
    subst hb
    exact fun e => hp.2 (e ▸ ha)
  · have m' : a ∈ w.L ++ [p] := m
    rcases List.mem_append.mp m' with m' | m'
    · exact h.ap a m'
    · simp at m'; subst m'; exact hp.1
  · by_cases q : k < st.length
    · rw [List.getElem?_append_left q] at e
      exact h.wf k b' e
    · have hk : k = st.length := by
        have := (List.getElem?_eq_some_iff.mp e).1
        simp at this; omega
      subst hk
      rw [List.getElem?_append_right (Nat.le_refl _)] at e
      simp at e
      subst e
      exact wf
  · have m' : a ∈ w.L ++ [p] := m
    rcases List.mem_append.mp m' with m' | m'
    · exact (h.tw a u (ht a u e).1).2 m'
    · simp at m'
      exact (ht a u e).2 m'
theorem Hold.wd (h : Hold K P ww w st H) {a : Addr} {o : HO} (e : w.W a = some o) : H a = some o := (h.imm a o e).1
theorem Hold.dp (h : Hold K P ww w st H) {d : PyData} {v : V} (r : Dp K w.W v d) : Dp K H v d := Dp.mono (fun _ _ e => h.wd e) d v r
theorem Hold.dpA (h : Hold K P ww w st H) {d : List PyData} {v : List V} (r : DpAll K w.W v d) : DpAll K H v d := Dp.monoA (fun _ _ e => h.wd e) d v r
end

/-! ## what a value is worth as data (a mutable list of data too) -/
def pures : List D → Option (List PyData)
  | [] => some []
  | .p x :: r => (pures r).map (x :: ·)
  | .loc _ :: _ => none
theorem pures_eq : ∀ {ds : List D} {xs : List PyData}, pures ds = some xs → ds = xs.map D.p
  | [], xs, h => by
    have e : ([] : List PyData) = xs := Option.some.inj h
    subst e; rfl
  | .p x :: r, xs, h => by
    have h' : (pures r).map (x :: ·) = some xs := h
    cases q : pures r with
    | none => rw [q] at h'; cases h'
    | some ys =>
      rw [q] at h'
      have e : x :: ys = xs := Option.some.inj h'
      subst e
      rw [pures_eq q]; rfl
  | .loc _ :: _, _, h => by cases h
theorem pures_map (xs : List PyData) : pures (xs.map D.p) = some xs := by
  induction xs with
  | nil => rfl
  | cons x r ih => show (pures (r.map D.p)).map (x :: ·) = _; rw [ih]; rfl
def view : Nat → D → Sto → Option PyData
  | _, .p x, _ => some x
  | 0, .loc _, _ => none
  | k + 1, .loc n, st => match st[n]? with
    | some (.lst ds) => (ds.mapM fun d => view k d st).map .list
    | _ => none
def vw (d : D) (st : Sto) : Option PyData := view 3 d st
theorem vw_p {x : PyData} {st : Sto} : vw (.p x) st = some x := rfl
section
variable {K : PySem.W.Frag} {P : Program} {ww : World} {w : Wd} {st : Sto} {H : Hp}
theorem view_ok (h : Hold K P ww w st H) : ∀ (k : Nat) {d : D} {v : V} {x : PyData}, RelD K w d v → view k d st = some x → Dp K H v x := by
  intro k
  induction k with
  | zero =>
    intro d v x r e
    cases d with
    | p y => cases e; exact h.dp r
    | loc n => cases e
  | succ k ih =>
    intro d v x r e
    cases d with
    | p y => cases e; exact h.dp r
    | loc n =>
      obtain ⟨a, rfl, ha⟩ := r
      have e' : (match st[n]? with
        | some (.lst ds) => (ds.mapM fun d => view k d st).map .list
        | _ => none) = some x := e
      cases q : st[n]? with
      | none => rw [q] at e'; cases e'
      | some b =>
        rw [q] at e'
        cases b with
        | lst ds =>
          obtain ⟨o, ho, vs, rfl, rl⟩ := h.obs n a _ ha q
          have e2 : (ds.mapM fun d => view k d st).map PyData.list = some x := e'
          cases q2 : (ds.mapM fun d => view k d st) with
          | none => rw [q2] at e2; cases e2
          | some xs =>
            rw [q2] at e2
            have e3 : PyData.list xs = x := Option.some.inj e2
            subst e3
            refine .lst (SqL.of ho) ?_
            clear e e' e2 q ho
            induction rl generalizing xs with
            | nil =>
              have : xs = [] := by
                simpa using q2
              subst this; exact .nil
            | cons r1 r2 ih2 =>
              rw [List.mapM_cons] at q2
              simp only [Option.bind_eq_bind, Option.bind_eq_some_iff, Option.pure_def] at q2
              obtain ⟨y, hy, ys, hys, e4⟩ := q2
              cases e4
              exact .cons (ih r1 hy) (ih2 _ hys)
        | dT _ => cases e'
        | dK _ => cases e'
        | set _ => cases e'
theorem vw_ok (h : Hold K P ww w st H) {d : D} {v : V} {x : PyData} (r : RelD K w d v) (e : vw d st = some x) : Dp K H v x := view_ok h 3 r e
def vws (ds : List D) (st : Sto) : Option (List PyData) := ds.mapM fun d => vw d st
theorem vws_ok (h : Hold K P ww w st H) : ∀ {ds : List D} {vs : List V} {xs : List PyData}, RelL K w ds vs → vws ds st = some xs → DpAll K H vs xs
  | _, _, xs, .nil, e => by
    have : xs = [] := by unfold vws at e; simpa using e
    subst this; exact .nil
  | _, _, xs, .cons r1 r2, e => by
    unfold vws at e
    rw [List.mapM_cons] at e
    simp only [Option.bind_eq_bind, Option.bind_eq_some_iff, Option.pure_def] at e
    obtain ⟨y, hy, ys, hys, e4⟩ := e
    cases e4
    exact .cons (vw_ok h r1 hy) (vws_ok h r2 hys)
end
/-- rows that stand in the heap are taken up -/
theorem Hold.adopt {K : PySem.W.Frag} {P : Program} {ww : World} {w : Wd} {st : Sto} {H : Hp} (h : Hold K P ww w st H) (S : Addr → Prop) (hS : ∀ a, S a → ∃ xs, H a = some (.tup xs)) :
    ∃ w' : Wd, w.Le w' ∧ Hold K P ww w' st H ∧ ∀ a xs, S a → H a = some (.tup xs) → w'.W a = some (.tup xs) := by
  classical
  let W' : Hp := fun a => if S a then H a else w.W a
  have le : w.Le ⟨W', w.L, w.T⟩ := ⟨⟨fun a o e => by
    show (if S a then H a else w.W a) = some o
    by_cases q : S a
    · rw [if_pos q]; exact (h.imm a o e).1
    · rw [if_neg q]; exact e, [], by simp⟩, rfl⟩
  refine ⟨⟨W', w.L, w.T⟩, le, ⟨fun a o e => ?_, h.len, fun n a b e1 e2 => ?_, h.nd, fun a m => ?_, h.wf, h.tmp, fun a o e => ⟨?_, (h.tw a o e).2⟩, h.tt⟩, fun a xs q e => ?_⟩
  · have e' : (if S a then H a else w.W a) = some o := e
    by_cases q : S a
    · rw [if_pos q] at e'
      obtain ⟨xs, hx⟩ := hS a q
      rw [hx] at e'
      cases e'
      exact ⟨hx, True.intro⟩
    · rw [if_neg q] at e'
      exact h.imm a o e'
  · obtain ⟨o, h1, h2⟩ := h.obs n a b e1 e2
    exact ⟨o, h1, h2.mono le.toLc⟩
  · show (if S a then H a else w.W a) = none
    by_cases q : S a
    · obtain ⟨xs, hx⟩ := hS a q
      obtain ⟨n, hn⟩ := List.mem_iff_getElem?.mp m
      have hl : n < st.length := by rw [← h.len]; exact (List.getElem?_eq_some_iff.mp hn).1
      obtain ⟨o, h1, h2⟩ := h.obs n a st[n] hn (List.getElem?_eq_getElem hl)
      rw [hx] at h1
      cases h1
      exact absurd ⟨xs, rfl⟩ h2.notTup.1
    · rw [if_neg q]; exact h.ap a m
  · show (if S a then H a else w.W a) = none
    by_cases q : S a
    · obtain ⟨xs, hx⟩ := hS a q
      have := h.tmp a o e
      rw [hx] at this
      cases this
      exact absurd e (h.tt a xs)
    · rw [if_neg q]; exact (h.tw a o e).1
  · show (if S a then H a else w.W a) = some (.tup xs)
    rw [if_pos q]; exact e
end Fw

set_option maxRecDepth 100000
set_option maxHeartbeats 4000000
namespace Fw
open PySem PySem.Spec PyProof.Rows L2

/-! ## readings by computations -/
structure Kx where
  K : PySem.W.Frag
  P : Program
  ww : World
  ex : Nat → Addr
abbrev kxOf (X : Cx) (ex : Nat → Addr) : Kx := ⟨X.K, X.prog, X.w, ex⟩
abbrev HoldK (κ : Kx) (w : Wd) (st : Sto) (H : Hp) : Prop := Hold κ.K κ.P κ.ww w st H
def RelE (κ : Kx) (w : Wd) (env : Env') (σ : L2.St) : Prop := env.length = σ.length ∧ ∀ (i : Nat) (d : D), env[i]? = some (some d) → ∃ v, σ[i]? = some (some v) ∧ RelD κ.K w d v
theorem RelE.mono {κ : Kx} {w w' : Wd} {env : Env'} {σ : L2.St} (h : w.Lc w') (r : RelE κ w env σ) : RelE κ w' env σ := ⟨r.1, fun i d e => by
  obtain ⟨v, h1, h2⟩ := r.2 i d e
  exact ⟨v, h1, h2.mono h⟩⟩
/-- what is wanted behind a computation -/
def PostG (κ : Kx) (Wx : WX) (σ : L2.St) {β : Type} (w : Wd) (r : R β) (C : β → Sto → Wd → Hp → Prop) : Prop := match r with
  | .ok b st => ∀ w' H, w.Le w' → HoldK κ w' st H → C b st w' H
  | .exc c st => ∀ w' H, w.Le w' → HoldK κ w' st H → Wx (.ref (κ.ex c)) none σ H
  | .bad => False
section
variable {κ : Kx} {Wx : WX} {σ : L2.St} {α β : Type} {w : Wd}
theorem PostG.imp {r : R β} {C C' : β → Sto → Wd → Hp → Prop} (h : PostG κ Wx σ w r C) (q : ∀ b st' w' H', w.Le w' → HoldK κ w' st' H' → C b st' w' H' → C' b st' w' H') : PostG κ Wx σ w r C' := by
  cases r with
  | ok b st => exact fun w' H le hh => q b st w' H le hh (h w' H le hh)
  | exc c st => exact h
  | bad => exact h
theorem PostG.anti {w1 : Wd} {r : R β} {C : β → Sto → Wd → Hp → Prop} (le : w.Le w1) (h : PostG κ Wx σ w r C) : PostG κ Wx σ w1 r C := by
  cases r with
  | ok b st => exact fun w' H le' hh => h w' H (le.trans le') hh
  | exc c st => exact fun w' H le' hh => h w' H (le.trans le') hh
  | bad => exact h
theorem PostG.bnd {m : M α} {f : α → M β} {st : Sto} {C : β → Sto → Wd → Hp → Prop} (h : PostG κ Wx σ w (bnd m f st) C) : PostG κ Wx σ w (m st) fun b st1 w1 _ => PostG κ Wx σ w1 (f b st1) C := by
  unfold Fw.bnd at h
  cases q : m st with
  | ok b st1 =>
    rw [q] at h
    exact fun w' H le hh => PostG.anti le h
  | exc c st1 =>
    rw [q] at h
    exact h
  | bad =>
    rw [q] at h
    exact h
theorem PostG.ret {b : β} {st : Sto} {H : Hp} {C : β → Sto → Wd → Hp → Prop} (hh : HoldK κ w st H) (h : PostG κ Wx σ w (ret b st) C) : C b st w H := h w H (Wd.Le.refl w) hh
end
/-- a value is handed on -/
abbrev CV (κ : Kx) (Q : VK) : D → Sto → Wd → Hp → Prop := fun d _ w' H' => ∀ v, RelD κ.K w' d v → Q v H'
abbrev CB (Q : Bool → Hp → Prop) : Bool → Sto → Wd → Hp → Prop := fun b _ _ H' => Q b H'
abbrev CL (κ : Kx) (Q : List V → Hp → Prop) : List D → Sto → Wd → Hp → Prop := fun ds _ w' H' => ∀ vs, RelL κ.K w' ds vs → Q vs H'
def rdE (κ : Kx) (m : Env' → M D) (Wx : WX) : TE := fun σ H Q => ∃ w env st, RelE κ w env σ ∧ HoldK κ w st H ∧ PostG κ Wx σ w (m env st) (CV κ Q)
def rdT (κ : Kx) (m : Env' → M Bool) (Wx : WX) : TT := fun σ H Q => ∃ w env st, RelE κ w env σ ∧ HoldK κ w st H ∧ PostG κ Wx σ w (m env st) (CB Q)
def rdA (κ : Kx) (m : Env' → M (List D)) (Wx : WX) : TA := fun σ H Q => ∃ w env st, RelE κ w env σ ∧ HoldK κ w st H ∧ PostG κ Wx σ w (m env st) (CL κ Q)

theorem _root_.L2.PE.wk {X : Cx} {e : Expr} {t t' : TE} (h : PE X e t) (q : ∀ σ H Q, t' σ H Q → t σ H Q) : PE X e t' := ⟨fun pins s σ H Q I hw => h.run pins s σ H Q I (q σ H Q hw)⟩
theorem _root_.L2.PT.wk {X : Cx} {e : Expr} {t t' : TT} (h : PT X e t) (q : ∀ σ H Q, t' σ H Q → t σ H Q) : PT X e t' := ⟨fun pins s σ H Q I hw => h.run pins s σ H Q I (q σ H Q hw)⟩
theorem _root_.L2.PW.wk {X : Cx} {e : Expr} {t t' : TT} (h : PW X e t) (q : ∀ σ H Q, t' σ H Q → t σ H Q) : PW X e t' := ⟨fun wh pins s σ H Q I hw => h.run wh pins s σ H Q I (q σ H Q hw)⟩
theorem _root_.L2.PA.wk {X : Cx} {e : List Expr} {t t' : TA} (h : PA X e t) (q : ∀ σ H Q, t' σ H Q → t σ H Q) : PA X e t' := ⟨fun pos pins s σ H Q I hw => h.run pos pins s σ H Q I (q σ H Q hw)⟩
theorem _root_.L2.PS.wk {X : Cx} {e : Stmt} {t t' : TS} (h : PS X e t) (q : ∀ D σ H, t' D σ H → t D σ H) : PS X e t' := ⟨fun pins s σ H D I hw => h.run pins s σ H D I (q D σ H hw)⟩
theorem _root_.L2.PSs.wk {X : Cx} {e : List Stmt} {t t' : TS} (h : PSs X e t) (q : ∀ D σ H, t' D σ H → t D σ H) : PSs X e t' := ⟨fun pins s σ H D I hw => h.run pins s σ H D I (q D σ H hw)⟩

/-- values by values: a built-in operation -/
abbrev Fn1 := D → Sto → Option (D × Sto)
abbrev Fn2 := D → D → Sto → Option (D × Sto)
abbrev FnL := List D → Sto → Option (D × Sto)
def lft (o : Sto → Option (D × Sto)) : M D := fun st => match o st with
  | some (d, st') => .ok d st'
  | none => .bad
/-- the operation's end -/
def Fin (κ : Kx) (w : Wd) (o : Option (D × Sto)) (Q : VK) : Prop := ∃ d st', o = some (d, st') ∧ ∀ w' H' v, w.Le w' → HoldK κ w' st' H' → RelD κ.K w' d v → Q v H'
theorem Fin.of {κ : Kx} {Wx : WX} {σ : L2.St} {w : Wd} {o : Sto → Option (D × Sto)} {st : Sto} {Q : VK} (h : PostG κ Wx σ w (lft o st) (CV κ Q)) : Fin κ w (o st) Q := by
  unfold lft at h
  cases q : o st with
  | none => rw [q] at h; exact h.elim
  | some z =>
    obtain ⟨d, st'⟩ := z
    rw [q] at h
    exact ⟨d, st', rfl, fun w' H' v le hh r => h w' H' le hh v r⟩
def rd1 (κ : Kx) (g : Fn1) : V → Hp → VK → Prop := fun v H Q => ∃ w x st, RelD κ.K w x v ∧ HoldK κ w st H ∧ Fin κ w (g x st) Q
def rd2 (κ : Kx) (g : Fn2) : R2 := fun v u H Q => ∃ w x y st, RelD κ.K w x v ∧ RelD κ.K w y u ∧ HoldK κ w st H ∧ Fin κ w (g x y st) Q
def rdL (κ : Kx) (g : FnL) : List V → Hp → VK → Prop := fun vs H Q => ∃ w xs st, RelL κ.K w xs vs ∧ HoldK κ w st H ∧ Fin κ w (g xs st) Q

section
variable {X : Cx} {κ : Kx} {Wx : WX} {σ : L2.St} {H : Hp} {ma mb : Env' → M D}
theorem rd_one {β : Type} {f : D → M β} {C : β → Sto → Wd → Hp → Prop} {w : Wd} {env : Env'} {st : Sto} (hE : RelE κ w env σ) (hH : HoldK κ w st H) (h : PostG κ Wx σ w (bnd (ma env) f st) C) :
    rdE κ ma Wx σ H fun v H1 => ∃ w1 x st1, w.Le w1 ∧ RelD κ.K w1 x v ∧ RelE κ w1 env σ ∧ HoldK κ w1 st1 H1 ∧ PostG κ Wx σ w1 (f x st1) C :=
  ⟨w, env, st, hE, hH, (PostG.bnd h).imp fun x st1 w1 H1 le hH1 hp v rv => ⟨w1, x, st1, le, rv, hE.mono le, hH1, hp⟩⟩
theorem rd_two {β : Type} {f : D → D → M β} {C : β → Sto → Wd → Hp → Prop} {w : Wd} {env : Env'} {st : Sto} (hE : RelE κ w env σ) (hH : HoldK κ w st H) (h : PostG κ Wx σ w (bnd (ma env) (fun x => bnd (mb env) (f x)) st) C) :
    rdE κ ma Wx σ H fun v H1 => rdE κ mb Wx σ H1 fun u H2 => ∃ w2 x y st2, w.Le w2 ∧ RelD κ.K w2 x v ∧ RelD κ.K w2 y u ∧ RelE κ w2 env σ ∧ HoldK κ w2 st2 H2 ∧ PostG κ Wx σ w2 (f x y st2) C := by
  obtain ⟨w0, env0, st0, a, b, c⟩ := rd_one hE hH h
  refine ⟨w0, env0, st0, a, b, c.imp fun d st' w' H' le hh q v rv => ?_⟩
  obtain ⟨w1, x, st1, le1, r1, hE1, hH1, hp⟩ := q v rv
  obtain ⟨w0', env0', st0', a', b', c'⟩ := rd_one hE1 hH1 hp
  refine ⟨w0', env0', st0', a', b', c'.imp fun d' st'' w'' H'' le' hh' q' u ru => ?_⟩
  obtain ⟨w2, y, st2, le2, r2, hE2, hH2, hp2⟩ := q' u ru
  exact ⟨w2, x, y, st2, le1.trans le2, r1.mono le2, r2, hE2, hH2, hp2⟩

/-! ## names, constants, operators -/
def mVar (i : Nat) : Env' → M D := fun env => opt (env[i]?.bind id)
theorem r_var {i : Nat} {e : Expr} (h : PE X e (tVar i)) : PE X e (rdE κ (mVar i) Wx) := h.wk fun σ H Q ⟨w, env, st, hE, hH, hp⟩ => by
  unfold mVar opt at hp
  cases q : env[i]?.bind id with
  | none => rw [q] at hp; exact hp.elim
  | some d =>
    rw [q] at hp
    have e : env[i]? = some (some d) := by
      cases z : env[i]? with
      | none => rw [z] at q; cases q
      | some o => rw [z] at q; have q' : o = some d := q; rw [q']
    obtain ⟨v, h1, h2⟩ := hE.2 i d e
    exact ⟨v, h1, hp w H (Wd.Le.refl w) hH v h2⟩
def mC (x : PyData) : Env' → M D := fun _ => ret (.p x)
theorem r_con {v : V} {e : Expr} {x : PyData} (h : PE X e (tC v)) (r : ∀ W, Dp κ.K W v x) : PE X e (rdE κ (mC x) Wx) := h.wk fun σ H Q ⟨w, env, st, hE, hH, hp⟩ => hp w H (Wd.Le.refl w) hH v (r w.W)
def m2 (ma mb : Env' → M D) (g : Fn2) : Env' → M D := fun env => bnd (ma env) fun x => bnd (mb env) fun y => lft (g x y)
def m1 (ma : Env' → M D) (g : Fn1) : Env' → M D := fun env => bnd (ma env) fun x => lft (g x)
theorem rd_m2 {g : Fn2} {Q : VK} (h : rdE κ (m2 ma mb g) Wx σ H Q) : rdE κ ma Wx σ H fun v H1 => rdE κ mb Wx σ H1 fun u H2 => rd2 κ g v u H2 Q := by
  obtain ⟨w, env, st, hE, hH, hp⟩ := h
  obtain ⟨w0, env0, st0, a, b, c⟩ := rd_two (f := fun x y => lft (g x y)) hE hH hp
  refine ⟨w0, env0, st0, a, b, c.imp fun d st' w' H' le hh q v rv => ?_⟩
  obtain ⟨w1, env1, st1, a1, b1, c1⟩ := q v rv
  refine ⟨w1, env1, st1, a1, b1, c1.imp fun d st' w' H' le hh q u ru => ?_⟩
  obtain ⟨w2, x, y, st2, _, r1, r2, _, hH2, hp2⟩ := q u ru
  exact ⟨w2, x, y, st2, r1, r2, hH2, Fin.of hp2⟩
theorem rd_m1 {g : Fn1} {Q : VK} (h : rdE κ (m1 ma g) Wx σ H Q) : rdE κ ma Wx σ H fun v H1 => rd1 κ g v H1 Q := by
  obtain ⟨w, env, st, hE, hH, hp⟩ := h
  obtain ⟨w0, env0, st0, a, b, c⟩ := rd_one (f := fun x => lft (g x)) hE hH hp
  refine ⟨w0, env0, st0, a, b, c.imp fun d st' w' H' le hh q v rv => ?_⟩
  obtain ⟨w1, x, st1, _, r1, _, hH1, hp1⟩ := q v rv
  exact ⟨w1, x, st1, r1, hH1, Fin.of hp1⟩
variable {a b e : Expr} {pos : Pos}
theorem r_bin {op : Operator} {g : Fn2} (ho : OpR X (binaryOp op) (rd2 κ g)) (ha : PE X a (rdE κ ma Wx)) (hb : PE X b (rdE κ mb Wx)) : PE X (.BinOp a op b pos) (rdE κ (m2 ma mb g) Wx) :=
  (pe_op ho ha hb).wk fun σ H Q h => rd_m2 h
theorem r_un {op : UnaryOp} {g : Fn1} (ho : UnR X (unaryOp op) (rd1 κ g)) (ha : PE X a (rdE κ ma Wx)) : PE X (.UnaryOp op a pos) (rdE κ (m1 ma g) Wx) :=
  (pe_un ho ha).wk fun σ H Q h => rd_m1 h
theorem r_cmp {op : CmpOp} {g : Fn2} (ho : OpR X (compareOp op) (rd2 κ g)) (ha : PE X a (rdE κ ma Wx)) (hb : PE X b (rdE κ mb Wx)) (hm : behindInMarks op b = false) : PE X (.Compare a [op] [b] pos) (rdE κ (m2 ma mb g) Wx) :=
  (pe_cmpR ho ha hb hm).wk fun σ H Q h => rd_m2 h
theorem r_ix {g : Fn2} (ho : IxR X (rd2 κ g)) (ha : PE X a (rdE κ ma Wx)) (hb : PE X b (rdE κ mb Wx)) (hs : PlainIx b) : PE X (.Subscript a b pos) (rdE κ (m2 ma mb g) Wx) :=
  (pe_ix ho ha hb hs).wk fun σ H Q h => rd_m2 h
end
/-- rules for two values, joined -/
theorem _root_.L2.OpR.wk {X : Cx} {f : Value → Value → Sem Value} {r r' : R2} (h : OpR X f r) (q : ∀ v u H Q, r' v u H Q → r v u H Q) : OpR X f r' := fun pins s σ H x y v u Q I rx ry hw => h pins s σ H x y v u Q I rx ry (q _ _ _ _ hw)

/-! ## tests -/
section
variable {X : Cx} {κ : Kx} {Wx : WX} {σ : L2.St} {H : Hp} {ma mb : Env' → M D} {ta tb : Env' → M Bool} {a b c : Expr} {pos : Pos} {rest : List Expr}
/-- the truth of data -/
def truth (x : PyData) : Option Bool := match x with
  | .none => some false
  | .bool b => some b
  | .int i => some (i != 0)
  | .str s => if s.length ≤ 1000000 then some ((s.length : Int) != 0) else none
  | .list xs => some (!xs.isEmpty)
  | .tuple xs => some (!xs.isEmpty)
  | .dict _ => none
def tV (m : Env' → M D) : Env' → M Bool := fun env => bnd (m env) fun d st => match (vw d st).bind truth with
  | some b => .ok b st
  | none => .bad
theorem rd_tb {β : Type} {f : Bool → M β} {C : β → Sto → Wd → Hp → Prop} {w : Wd} {env : Env'} {st : Sto} (hE : RelE κ w env σ) (hH : HoldK κ w st H) (h : PostG κ Wx σ w (bnd (ta env) f st) C) :
    rdT κ ta Wx σ H fun k H1 => ∃ w1 st1, w.Le w1 ∧ RelE κ w1 env σ ∧ HoldK κ w1 st1 H1 ∧ PostG κ Wx σ w1 (f k st1) C :=
  ⟨w, env, st, hE, hH, (PostG.bnd h).imp fun x st1 w1 H1 le hH1 hp => ⟨w1, st1, le, hE.mono le, hH1, hp⟩⟩
theorem isEmpty_len {α β : Type} {xs : List α} {ys : List β} (h : xs.length = ys.length) : xs.isEmpty = ys.isEmpty := by
  cases xs <;> cases ys <;> simp_all
theorem lim_line {n : Nat} (h : n ≤ 1000000) : n ≤ sizeLine := by rw [sizeLine_eq]; omega
theorem truth_ok {v : V} {x : PyData} {k : Bool} (r : Dp κ.K H v x) (e : truth x = some k) : TruV κ.K v H k := by
  cases r with
  | non => cases e; show _ = false; rfl
  | bl b => cases e; show _ = _; rfl
  | int i => cases e; show _ = _; rfl
  | str s =>
    unfold truth at e
    simp only at e
    split at e
    · rename_i h
      cases e
      exact ⟨lim_line h, rfl⟩
    · cases e
  | lst s hl => cases e; exact .inl ⟨_, s, by rw [isEmpty_len (Fw.DpAll.length hl)]⟩
  | tup s hl => cases e; exact .inr (.inl ⟨_, s, by rw [isEmpty_len (Fw.DpAll.length hl)]⟩)
theorem r_tv (ha : PE X a (rdE (kxOf X ex) ma Wx)) (he : ∀ whole, isTrue a X.env whole = (do let v ← whole; standAt a.pos; holding [v] (truthy v))) : PT X a (rdT (kxOf X ex) (tV ma) Wx) := by
  refine (pt_truth ha he).wk fun σ H Q h => ?_
  obtain ⟨w, env, st, hE, hH, hp⟩ := h
  obtain ⟨w0, env0, st0, a0, b0, c0⟩ := rd_one hE hH hp
  refine ⟨w0, env0, st0, a0, b0, c0.imp fun d st' w' H' le hh q v rv => ?_⟩
  obtain ⟨w1, x, st1, _, r1, _, hH1, hp1⟩ := q v rv
  cases q2 : (vw x st1).bind truth with
  | none => rw [q2] at hp1; exact hp1.elim
  | some k =>
    rw [q2] at hp1
    cases q3 : vw x st1 with
    | none => rw [q3] at q2; cases q2
    | some y =>
      rw [q3] at q2
      exact ⟨k, truth_ok (κ := kxOf X ex) (vw_ok hH1 r1 q3) q2, hp1 w1 _ (Wd.Le.refl _) hH1⟩
def tNt (t : Env' → M Bool) : Env' → M Bool := fun env => bnd (t env) fun b => ret (!b)
theorem r_not (ha : PT X a (rdT κ ta Wx)) : PT X (.UnaryOp .Not a pos) (rdT κ (tNt ta) Wx) := (pt_not ha).wk fun σ H Q h => by
  obtain ⟨w, env, st, hE, hH, hp⟩ := h
  obtain ⟨w0, env0, st0, a0, b0, c0⟩ := rd_tb hE hH hp
  refine ⟨w0, env0, st0, a0, b0, c0.imp fun k st' w' H' le hh q => ?_⟩
  obtain ⟨w1, st1, _, _, hH1, hp1⟩ := q
  exact PostG.ret (C := CB Q) hH1 hp1
def tAn (t u : Env' → M Bool) : Env' → M Bool := fun env => bnd (t env) fun b => if b = true then u env else ret false
def tOrr (t u : Env' → M Bool) : Env' → M Bool := fun env => bnd (t env) fun b => if b = true then ret true else u env
theorem r_and (ha : PT X a (rdT κ ta Wx)) (hb : PW X (.BoolOp .And (b :: rest) pos) (rdT κ tb Wx)) : PW X (.BoolOp .And (a :: b :: rest) pos) (rdT κ (tAn ta tb) Wx) := (pw_and ha hb).wk fun σ H Q h => by
  obtain ⟨w, env, st, hE, hH, hp⟩ := h
  obtain ⟨w0, env0, st0, a0, b0, c0⟩ := rd_tb hE hH hp
  refine ⟨w0, env0, st0, a0, b0, c0.imp fun k st' w' H' le hh q => ?_⟩
  obtain ⟨w1, st1, _, hE1, hH1, hp1⟩ := q
  cases k with
  | true => rw [if_pos rfl] at hp1; exact iteT ⟨w1, env, st1, hE1, hH1, hp1⟩
  | false => rw [if_neg Bool.false_ne_true] at hp1; exact iteF (PostG.ret (C := CB Q) hH1 hp1)
theorem r_or (ha : PT X a (rdT κ ta Wx)) (hb : PW X (.BoolOp .Or (b :: rest) pos) (rdT κ tb Wx)) : PW X (.BoolOp .Or (a :: b :: rest) pos) (rdT κ (tOrr ta tb) Wx) := (pw_or ha hb).wk fun σ H Q h => by
  obtain ⟨w, env, st, hE, hH, hp⟩ := h
  obtain ⟨w0, env0, st0, a0, b0, c0⟩ := rd_tb hE hH hp
  refine ⟨w0, env0, st0, a0, b0, c0.imp fun k st' w' H' le hh q => ?_⟩
  obtain ⟨w1, st1, _, hE1, hH1, hp1⟩ := q
  cases k with
  | false => rw [if_neg Bool.false_ne_true] at hp1; exact iteF ⟨w1, env, st1, hE1, hH1, hp1⟩
  | true => rw [if_pos rfl] at hp1; exact iteT (PostG.ret (C := CB Q) hH1 hp1)
/-- a comparison as a test -/
def asB (d : D) : Option Bool := match d with
  | .p (.bool b) => some b
  | _ => none
def tB (m : Env' → M D) : Env' → M Bool := fun env => bnd (m env) fun d => opt (asB d)
theorem rd_tbv {Q : Bool → Hp → Prop} {w : Wd} {env : Env'} {st : Sto} (hE : RelE κ w env σ) (hH : HoldK κ w st H) (h : PostG κ Wx σ w (bnd (ma env) (fun d => opt (asB d)) st) (CB Q)) :
    rdE κ ma Wx σ H fun v H1 => ∃ k, v = .bl k ∧ Q k H1 := by
  obtain ⟨w0, env0, st0, a0, b0, c0⟩ := rd_one hE hH h
  refine ⟨w0, env0, st0, a0, b0, c0.imp fun d st' w' H' le hh q v rv => ?_⟩
  obtain ⟨w1, x, st1, _, r1, _, hH1, hp1⟩ := q v rv
  cases x with
  | loc n => exact hp1.elim
  | p y =>
    cases y with
    | bool k =>
      have r1' : Dp κ.K w1.W v (.bool k) := r1
      cases r1'
      exact ⟨k, rfl, hp1 w1 _ (Wd.Le.refl _) hH1⟩
    | _ => exact hp1.elim
theorem r_tcmp {op : CmpOp} {g : Fn2} (ho : OpR X (compareOp op) (rd2 κ g)) (ha : PE X a (rdE κ ma Wx)) (hb : PE X b (rdE κ mb Wx)) (hm : behindInMarks op b = false) : PT X (.Compare a [op] [b] pos) (rdT κ (tB (m2 ma mb g)) Wx) := by
  have h0 : PT X (.Compare a [op] [b] pos) (tTest (rdE κ (m2 ma mb g) Wx)) := by
    refine (pt_cmpR ho ha hb hm).wk fun σ H Q h => ?_
    exact rd_m2 h
  refine h0.wk fun σ H Q h => ?_
  obtain ⟨w, env, st, hE, hH, hp⟩ := h
  exact rd_tbv hE hH hp
/-- values of and, or, not: bools -/
def eB (t : Env' → M Bool) : Env' → M D := fun env => bnd (t env) fun b => ret (.p (.bool b))
def mAnd (ma mb : Env' → M D) : Env' → M D := fun env => bnd (ma env) fun d => match asB d with
  | some true => mb env
  | some false => ret (.p (.bool false))
  | none => bad
def mOr (ma mb : Env' → M D) : Env' → M D := fun env => bnd (ma env) fun d => match asB d with
  | some true => ret (.p (.bool true))
  | some false => mb env
  | none => bad
def mNot (ma : Env' → M D) : Env' → M D := fun env => bnd (ma env) fun d => match asB d with
  | some k => ret (.p (.bool (!k)))
  | none => bad
theorem asB_shape {x : D} {w : Wd} {v : V} {k : Bool} (r : RelD κ.K w x v) (e : asB x = some k) : v = .bl k := by
  cases x with
  | loc n => cases e
  | p y =>
    cases y with
    | bool j =>
      cases e
      have r' : Dp κ.K w.W v (.bool k) := r
      cases r'
      rfl
    | _ => cases e
theorem r_eand (ha : PE X a (rdE κ ma Wx)) (hb : PE X (.BoolOp .And (b :: rest) pos) (rdE κ mb Wx)) : PE X (.BoolOp .And (a :: b :: rest) pos) (rdE κ (mAnd ma mb) Wx) := (pe_and ha hb).wk fun σ H Q h => by
  obtain ⟨w, env, st, hE, hH, hp⟩ := h
  obtain ⟨w0, env0, st0, a0, b0, c0⟩ := rd_one hE hH hp
  refine ⟨w0, env0, st0, a0, b0, c0.imp fun d st' w' H' le hh q v rv => ?_⟩
  obtain ⟨w1, x, st1, _, r1, hE1, hH1, hp1⟩ := q v rv
  cases q2 : asB x with
  | none => rw [q2] at hp1; exact hp1.elim
  | some k =>
    rw [q2] at hp1
    refine ⟨k, asB_shape r1 q2, ?_⟩
    cases k with
    | true => exact iteT ⟨w1, env, st1, hE1, hH1, hp1⟩
    | false => exact iteF (PostG.ret (C := CV κ Q) hH1 hp1 _ (.bl false))
theorem r_eor (ha : PE X a (rdE κ ma Wx)) (hb : PE X (.BoolOp .Or (b :: rest) pos) (rdE κ mb Wx)) : PE X (.BoolOp .Or (a :: b :: rest) pos) (rdE κ (mOr ma mb) Wx) := (pe_or ha hb).wk fun σ H Q h => by
  obtain ⟨w, env, st, hE, hH, hp⟩ := h
  obtain ⟨w0, env0, st0, a0, b0, c0⟩ := rd_one hE hH hp
  refine ⟨w0, env0, st0, a0, b0, c0.imp fun d st' w' H' le hh q v rv => ?_⟩
  obtain ⟨w1, x, st1, _, r1, hE1, hH1, hp1⟩ := q v rv
  cases q2 : asB x with
  | none => rw [q2] at hp1; exact hp1.elim
  | some k =>
    rw [q2] at hp1
    refine ⟨k, asB_shape r1 q2, ?_⟩
    cases k with
    | false => exact iteF ⟨w1, env, st1, hE1, hH1, hp1⟩
    | true => exact iteT (PostG.ret (C := CV κ Q) hH1 hp1 _ (.bl true))
theorem r_enot (ha : PE X a (rdE κ ma Wx)) : PE X (.UnaryOp .Not a pos) (rdE κ (mNot ma) Wx) := (pe_not ha).wk fun σ H Q h => by
  obtain ⟨w, env, st, hE, hH, hp⟩ := h
  obtain ⟨w0, env0, st0, a0, b0, c0⟩ := rd_one hE hH hp
  refine ⟨w0, env0, st0, a0, b0, c0.imp fun d st' w' H' le hh q v rv => ?_⟩
  obtain ⟨w1, x, st1, _, r1, hE1, hH1, hp1⟩ := q v rv
  cases q2 : asB x with
  | none => rw [q2] at hp1; exact hp1.elim
  | some k =>
    rw [q2] at hp1
    exact ⟨k, asB_shape r1 q2, PostG.ret (C := CV κ Q) hH1 hp1 _ (.bl (!k))⟩
/-- a if t else b -/
def mIf (t : Env' → M Bool) (ma mb : Env' → M D) : Env' → M D := fun env => bnd (t env) fun k => if k = true then ma env else mb env
theorem r_if (hc : PT X c (rdT κ ta Wx)) (ha : PE X a (rdE κ ma Wx)) (hb : PE X b (rdE κ mb Wx)) : PE X (.IfExp c a b pos) (rdE κ (mIf ta ma mb) Wx) := (pe_ifExp hc ha hb).wk fun σ H Q h => by
  obtain ⟨w, env, st, hE, hH, hp⟩ := h
  obtain ⟨w0, env0, st0, a0, b0, c0⟩ := rd_tb hE hH hp
  refine ⟨w0, env0, st0, a0, b0, c0.imp fun k st' w' H' le hh q => ?_⟩
  obtain ⟨w1, st1, _, hE1, hH1, hp1⟩ := q
  cases k with
  | true => rw [if_pos rfl] at hp1; exact iteT ⟨w1, env, st1, hE1, hH1, hp1⟩
  | false => rw [if_neg Bool.false_ne_true] at hp1; exact iteF ⟨w1, env, st1, hE1, hH1, hp1⟩
end

/-! ## argument lists, displays -/
section
variable {X : Cx} {κ : Kx} {Wx : WX} {σ : L2.St} {H : Hp} {ma : Env' → M D} {ms : Env' → M (List D)} {e : Expr} {es : List Expr} {pos : Pos}
def aNil : Env' → M (List D) := fun _ => ret []
def aCons (m : Env' → M D) (ms : Env' → M (List D)) : Env' → M (List D) := fun env => bnd (m env) fun x => bnd (ms env) fun xs => ret (x :: xs)
theorem r_nil : PA X [] (rdA κ aNil Wx) := pa_nil.wk fun σ H Q h => by
  obtain ⟨w, env, st, hE, hH, hp⟩ := h
  exact PostG.ret (C := CL κ Q) hH hp [] .nil
theorem r_cons (ha : PE X e (rdE κ ma Wx)) (hr : PA X es (rdA κ ms Wx)) (hs : starEach (e :: es) X.env = (false, eval e X.env) :: starEach es X.env) : PA X (e :: es) (rdA κ (aCons ma ms) Wx) := (pa_cons ha hr hs).wk fun σ H Q h => by
  obtain ⟨w, env, st, hE, hH, hp⟩ := h
  obtain ⟨w0, env0, st0, a0, b0, c0⟩ := rd_one hE hH hp
  refine ⟨w0, env0, st0, a0, b0, c0.imp fun d st' w' H' le hh q v rv => ?_⟩
  obtain ⟨w1, x, st1, _, r1, hE1, hH1, hp1⟩ := q v rv
  exact ⟨w1, env, st1, hE1, hH1, (PostG.bnd hp1).imp fun ds st2 w2 H2 le2 hH2 hp2 vs rl => PostG.ret (C := CL κ Q) hH2 hp2 _ (.cons (r1.mono le2) rl)⟩
/-- an operation on an argument list -/
def mL (ms : Env' → M (List D)) (g : FnL) : Env' → M D := fun env => bnd (ms env) fun xs => lft (g xs)
theorem rd_mL {g : FnL} {Q : VK} (h : rdE κ (mL ms g) Wx σ H Q) : rdA κ ms Wx σ H fun vs H1 => rdL κ g vs H1 Q := by
  obtain ⟨w, env, st, hE, hH, hp⟩ := h
  exact ⟨w, env, st, hE, hH, (PostG.bnd hp).imp fun ds st1 w1 H1 le hH1 hp1 vs rl => ⟨w1, ds, st1, rl, hH1, Fin.of hp1⟩⟩
def gTupD : FnL := fun ds st => if ds.length ≤ 1000000 then (pures ds).map fun xs => (.p (.tuple xs), st) else none
def gLstD : FnL := fun ds st => if ds.length ≤ 1000000 then (pures ds).map fun xs => (.p (.list xs), st) else none
/-- a list display of a mutable list -/
def gMutD : FnL := fun ds st => if ds.length ≤ 1000000 ∧ (ds.all fun d => match d with
  | .p _ => true
  | .loc j => decide (j < st.length)) = true then some (.loc st.length, st ++ [.lst ds]) else none
theorem r_tup {x1 : Nat} (h : PA X es (rdA κ ms Wx)) : PE X (.Tuple es x1 pos) (rdE κ (mL ms gTupD) Wx) := (pe_tup h).wk fun σ H Q h => by
  obtain ⟨w, env, st, hE, hH, hp⟩ := rd_mL h
  refine ⟨w, env, st, hE, hH, hp.imp fun ds st1 w1 H1 le hH1 q vs rl => ?_⟩
  obtain ⟨w2, xs, st2, rl2, hH2, d, st', e, fin⟩ := q vs rl
  unfold gTupD at e
  split at e
  · rename_i hl
    cases q2 : pures xs with
    | none => rw [q2] at e; cases e
    | some ys =>
      rw [q2] at e
      cases e
      have ex := pures_eq q2
      subst ex
      rw [RelL.length rl2] at hl
      refine ⟨lim_line hl, fun p np => ?_⟩
      have n2 : w2.W p = none := hH2.free np
      have hI := Hold.imm_new (o := .tup vs) hH2 np trivial
      exact fin _ _ _ (Wd.le_imm n2) hI (.tup (SqT.of upd_same) (Dp.monoA (fun a o e => (Wd.le_imm (o := .tup vs) n2).W a o e) _ _ rl2.pure))
  · cases e
theorem r_lst (h : PA X es (rdA κ ms Wx)) : PE X (.List es pos) (rdE κ (mL ms gLstD) Wx) := (pe_lst h).wk fun σ H Q h => by
  obtain ⟨w, env, st, hE, hH, hp⟩ := rd_mL h
  refine ⟨w, env, st, hE, hH, hp.imp fun ds st1 w1 H1 le hH1 q vs rl => ?_⟩
  obtain ⟨w2, xs, st2, rl2, hH2, d, st', e, fin⟩ := q vs rl
  unfold gLstD at e
  split at e
  · rename_i hl
    cases q2 : pures xs with
    | none => rw [q2] at e; cases e
    | some ys =>
      rw [q2] at e
      cases e
      have ex := pures_eq q2
      subst ex
      rw [RelL.length rl2] at hl
      refine ⟨lim_line hl, fun p np => ?_⟩
      have n2 : w2.W p = none := hH2.free np
      have hI := Hold.imm_new (o := .lst vs) hH2 np trivial
      exact fin _ _ _ (Wd.le_imm n2) hI (.lst (SqL.of upd_same) (Dp.monoA (fun a o e => (Wd.le_imm (o := .lst vs) n2).W a o e) _ _ rl2.pure))
  · cases e
theorem wf_all {ds : List D} {n : Nat} (h : (ds.all fun d => match d with
  | .p _ => true
  | .loc j => decide (j < n)) = true) : Wf1 n (.lst ds) := fun j m => of_decide_eq_true (List.all_eq_true.mp h _ m)
theorem r_mut (h : PA X es (rdA κ ms Wx)) : PE X (.List es pos) (rdE κ (mL ms gMutD) Wx) := (pe_lst h).wk fun σ H Q h => by
  obtain ⟨w, env, st, hE, hH, hp⟩ := rd_mL h
  refine ⟨w, env, st, hE, hH, hp.imp fun ds st1 w1 H1 le hH1 q vs rl => ?_⟩
  obtain ⟨w2, xs, st2, rl2, hH2, d, st', e, fin⟩ := q vs rl
  unfold gMutD at e
  split at e
  · rename_i hl
    cases e
    refine ⟨lim_line (by rw [← RelL.length rl2]; exact hl.1), fun p np => ?_⟩
    have hI := Hold.mut_new (o := .lst vs) (b := .lst xs) hH2 np ⟨vs, rfl, rl2⟩ (wf_all hl.2)
    exact fin _ _ _ Wd.le_mut hI ⟨p, rfl, by
      show (w2.L ++ [p])[st2.length]? = some p
      rw [← hH2.len, List.getElem?_append_right (Nat.le_refl _)]
      simp⟩
  · cases e
end
end Fw

set_option maxRecDepth 100000
set_option maxHeartbeats 4000000
namespace Fw
open PySem PySem.Spec PyProof.Rows L2
open PySem.AutoSeq1 (wpAny_loadPart')
open PySem.MeetsSeq PySem.MeetsSeq2 PySem.MeetsSeq3

/-! ## data one level deep -/
def DpW (K : PySem.W.Frag) (w : Wd) (H : Hp) (v : V) : PyData → Prop
  | .list xs => ∃ a vs, v = .ref a ∧ SqL K H a vs ∧ DpAll K w.W vs xs
  | x => Dp K w.W v x
section
variable {K : PySem.W.Frag} {P : Program} {ww : World} {w : Wd} {st : Sto} {H : Hp}
theorem mapM0 : ∀ {ds : List D} {xs : List PyData} {st : Sto}, (ds.mapM fun d => view 0 d st) = some xs → ds = xs.map D.p
  | [], xs, st, h => by
    have : xs = [] := by simpa using h
    subst this; rfl
  | d :: r, xs, st, h => by
    rw [List.mapM_cons] at h
    simp only [Option.bind_eq_bind, Option.bind_eq_some_iff, Option.pure_def] at h
    obtain ⟨y, hy, ys, hys, e4⟩ := h
    cases e4
    cases d with
    | p x => cases hy; rw [mapM0 hys]; rfl
    | loc n => cases hy
theorem view1_ok (h : Hold K P ww w st H) {d : D} {v : V} {x : PyData} (r : RelD K w d v) (e : view 1 d st = some x) : DpW K w H v x := by
  cases d with
  | p y =>
    cases e
    cases x with
    | list xs =>
      have r' : Dp K w.W v (.list xs) := r
      cases r' with
      | lst s a => exact ⟨_, _, rfl, sqL_mono (fun _ _ e => h.wd e) s, a⟩
    | _ => exact r
  | loc n =>
    obtain ⟨a, rfl, ha⟩ := r
    have e' : (match st[n]? with
      | some (.lst ds) => (ds.mapM fun d => view 0 d st).map PyData.list
      | _ => none) = some x := e
    cases q : st[n]? with
    | none => rw [q] at e'; cases e'
    | some b =>
      rw [q] at e'
      cases b with
      | lst ds =>
        obtain ⟨o, ho, vs, rfl, rl⟩ := h.obs n a _ ha q
        have e2 : (ds.mapM fun d => view 0 d st).map PyData.list = some x := e'
        cases q2 : (ds.mapM fun d => view 0 d st) with
        | none => rw [q2] at e2; cases e2
        | some xs =>
          rw [q2] at e2
          have e3 : PyData.list xs = x := Option.some.inj e2
          subst e3
          have ed := mapM0 q2
          subst ed
          exact ⟨a, vs, rfl, SqL.of ho, rl.pure⟩
      | dT _ => cases e'
      | dK _ => cases e'
      | set _ => cases e'
theorem view1_p {x : PyData} {st : Sto} : view 1 (.p x) st = some x := rfl
theorem DpW.dp (h : Hold K P ww w st H) {v : V} : ∀ {x : PyData}, DpW K w H v x → Dp K H v x
  | .list xs, ⟨a, vs, e, s, d⟩ => by subst e; exact .lst s (h.dpA d)
  | .none, r => h.dp r
  | .bool _, r => h.dp r
  | .int _, r => h.dp r
  | .str _, r => h.dp r
  | .tuple _, r => h.dp r
  | .dict _, r => h.dp r
mutual
theorem Dp.plain : ∀ {x : PyData} {v : V}, Dp K H v x → x.plain = true
  | .none, _, _ => rfl
  | .bool _, _, _ => rfl
  | .int _, _, _ => rfl
  | .str _, _, _ => rfl
  | .list xs, _, r => by
    cases r with
    | lst s a => exact DpAll.plain a
  | .tuple xs, _, r => by
    cases r with
    | tup s a => exact DpAll.plain a
  | .dict _, _, r => by cases r
theorem DpAll.plain : ∀ {xs : List PyData} {vs : List V}, DpAll K H vs xs → PyData.plainAll xs = true
  | [], _, _ => rfl
  | x :: xs, _, r => by
    cases r with
    | cons a b => simp only [PyData.plainAll, Dp.plain a, DpAll.plain b, Bool.and_self]
end
theorem Dp.int_inv {v : V} {i : Int} (r : Dp K H v (.int i)) : v = .int i := by cases r; rfl
theorem Dp.str_inv {v : V} {i : Str} (r : Dp K H v (.str i)) : v = .str i := by cases r; rfl
theorem Dp.bl_inv {v : V} {i : Bool} (r : Dp K H v (.bool i)) : v = .bl i := by cases r; rfl
theorem Dp.tup_inv {v : V} {xs : List PyData} (r : Dp K H v (.tuple xs)) : ∃ a vs, v = .ref a ∧ SqT K H a vs ∧ DpAll K H vs xs := by
  cases r with
  | tup s a => exact ⟨_, _, rfl, s, a⟩
theorem Dp.lst_inv {v : V} {xs : List PyData} (r : Dp K H v (.list xs)) : ∃ a vs, v = .ref a ∧ SqL K H a vs ∧ DpAll K H vs xs := by
  cases r with
  | lst s a => exact ⟨_, _, rfl, s, a⟩
theorem Dp.ints : ∀ {ns : List Int} {vs : List V}, DpAll K H vs (ns.map PyData.int) → vs = ns.map V.int
  | [], _, r => by cases r; rfl
  | n :: ns, _, r => by
    cases r with
    | cons a b => rw [Dp.int_inv a, Dp.ints b]; rfl
theorem Dp.bools : ∀ {ns : List Bool} {vs : List V}, DpAll K H vs (ns.map PyData.bool) → vs = ns.map V.bl
  | [], _, r => by cases r; rfl
  | n :: ns, _, r => by
    cases r with
    | cons a b => rw [Dp.bl_inv a, Dp.bools b]; rfl
end

/-! ## the ends of operations that make pure data -/
section
variable {κ : Kx} {w : Wd} {st : Sto} {H : Hp} {Q : VK}
/-- the answer is data that stands already -/
theorem fin_here {x : PyData} {v : V} (hH : HoldK κ w st H) (r : Dp κ.K w.W v x) (fin : ∀ w' H' v, w.Le w' → HoldK κ w' st H' → RelD κ.K w' (.p x) v → Q v H') : Q v H := fin w H v (Wd.Le.refl w) hH r
theorem fin_tup {xs : List PyData} {vs : List V} {p : Addr} (hH : HoldK κ w st H) (np : H p = none) (r : DpAll κ.K w.W vs xs) (fin : ∀ w' H' v, w.Le w' → HoldK κ w' st H' → RelD κ.K w' (.p (.tuple xs)) v → Q v H') : Q (.ref p) (upd H p (.tup vs)) := by
  have n2 : w.W p = none := hH.free np
  have le := Wd.le_imm (w := w) (p := p) (o := .tup vs) n2
  exact fin _ _ _ le (Hold.imm_new hH np trivial) (.tup (SqT.of upd_same) (Dp.monoA (fun a o e => le.W a o e) _ _ r))
theorem fin_lst {xs : List PyData} {vs : List V} {p : Addr} (hH : HoldK κ w st H) (np : H p = none) (r : DpAll κ.K w.W vs xs) (fin : ∀ w' H' v, w.Le w' → HoldK κ w' st H' → RelD κ.K w' (.p (.list xs)) v → Q v H') : Q (.ref p) (upd H p (.lst vs)) := by
  have n2 : w.W p = none := hH.free np
  have le := Wd.le_imm (w := w) (p := p) (o := .lst vs) n2
  exact fin _ _ _ le (Hold.imm_new hH np trivial) (.lst (SqL.of upd_same) (Dp.monoA (fun a o e => le.W a o e) _ _ r))
theorem fin_mut {ds : List D} {vs : List V} {p : Addr} (hH : HoldK κ w st H) (np : H p = none) (r : RelL κ.K w ds vs) (wf : Wf1 st.length (.lst ds)) (fin : ∀ w' H' v, w.Le w' → HoldK κ w' (st ++ [.lst ds]) H' → RelD κ.K w' (.loc st.length) v → Q v H') : Q (.ref p) (upd H p (.lst vs)) := by
  have hI := Hold.mut_new (o := .lst vs) (b := .lst ds) hH np ⟨vs, rfl, r⟩ wf
  exact fin _ _ _ Wd.le_mut hI ⟨p, rfl, by
    show (w.L ++ [p])[st.length]? = some p
    rw [← hH.len, List.getElem?_append_right (Nat.le_refl _)]
    simp⟩
end
/-- operations on pure data -/
def lift1 (k : Nat) (f : PyData → Option PyData) : Fn1 := fun d st => ((view k d st).bind f).map fun r => (.p r, st)
def lift2 (k : Nat) (f : PyData → PyData → Option PyData) : Fn2 := fun d e st => ((view k d st).bind fun x => (view k e st).bind fun y => f x y).map fun r => (.p r, st)
theorem lift1_ok {k : Nat} {f : PyData → Option PyData} {d e : D} {st st' : Sto} (h : lift1 k f d st = some (e, st')) : ∃ x r, view k d st = some x ∧ f x = some r ∧ e = .p r ∧ st' = st := by
  unfold lift1 at h
  cases q : view k d st with
  | none => rw [q] at h; cases h
  | some x =>
    rw [q] at h
    cases q2 : f x with
    | none => rw [Option.bind_some, q2] at h; cases h
    | some r =>
      rw [Option.bind_some, q2] at h
      cases h
      exact ⟨x, r, rfl, q2, rfl, rfl⟩
theorem lift2_ok {k : Nat} {f : PyData → PyData → Option PyData} {d d2 e : D} {st st' : Sto} (h : lift2 k f d d2 st = some (e, st')) : ∃ x y r, view k d st = some x ∧ view k d2 st = some y ∧ f x y = some r ∧ e = .p r ∧ st' = st := by
  unfold lift2 at h
  cases q : view k d st with
  | none => rw [q] at h; cases h
  | some x =>
    cases q1 : view k d2 st with
    | none => rw [q, q1] at h; cases h
    | some y =>
      rw [q, q1] at h
      cases q2 : f x y with
      | none => rw [Option.bind_some, Option.bind_some, q2] at h; cases h
      | some r =>
        rw [Option.bind_some, Option.bind_some, q2] at h
        cases h
        exact ⟨x, y, r, rfl, rfl, q2, rfl, rfl⟩

/-! ## arithmetic -/
def addP : PyData → PyData → Option PyData
  | .int i, .int j => some (.int (i + j))
  | .str a, .str b => if a.length + b.length ≤ 1000000 then some (.str (a ++ b)) else none
  | .tuple a, .tuple b => if a.length + b.length ≤ 1000000 then some (.tuple (a ++ b)) else none
  | .list a, .list b => if a.length + b.length ≤ 1000000 then some (.list (a ++ b)) else none
  | _, _ => none
def subP : PyData → PyData → Option PyData
  | .int i, .int j => some (.int (i - j))
  | _, _ => none
def mulOk (i j : Int) : Bool := decide (i.natAbs.log2 + j.natAbs.log2 < 1000000)
def mulP : PyData → PyData → Option PyData
  | .int i, .int j => if mulOk i j = true then some (.int (i * j)) else none
  | .tuple a, .int k => if 0 ≤ k ∧ k ≤ 1000 ∧ a.length ≤ 1000 ∧ a ≠ [] then some (.tuple (List.replicate k.toNat a).flatten) else none
  | _, _ => none
def fdivP : PyData → PyData → Option PyData
  | .int i, .int j => if j ≠ 0 ∧ j.natAbs.log2 < 9000 then some (.int (i.fdiv j)) else none
  | _, _ => none
def modP : PyData → PyData → Option PyData
  | .int i, .int j => if j ≠ 0 then some (.int (i.fmod j)) else none
  | _, _ => none
def negP : PyData → Option PyData
  | .int i => some (.int (-i))
  | _ => none
end Fw
namespace L2
open PySem PySem.Spec PyProof.Rows
open PySem.AutoSeq1 (wpAny_loadPart')
open PySem.MeetsSeq PySem.MeetsSeq2 PySem.MeetsSeq3
theorem fw_tuple_mul1 (l : Addr) (items : Array Value) (n : Nat) (dd : Option Addr) (sl : Array (Option Value)) (x : Int) (u : Tok) (c0 : (decide (x < -(2 ^ 63)) || decide (x ≥ 2 ^ 63)) = false) (c1 : (items.isEmpty || x == 1) = true) :
    Meets (Builtin.«tuple.__mul__» ⟨[.ref l, .int x u], []⟩) (fun _ R s => s.heap.get? l = some { cls := .type "tuple", dict := dd, data := .seq items n, slots := sl } ∧
      R (.ok (.ret (Value.ref l))) s) :=
  .of_wp fun prog w A R s h => by
    obtain ⟨hp, g, d, tk, os⟩ := s
    obtain ⟨hl, h⟩ := h
    have f1 := AutoSeq1.idx_int
    wp_walk using wpAny_loadPart' hl
    repeat (first
      | (refine wpAny_ite_false (decide_eq_false (by rw [c0]; exact Bool.false_ne_true)) ?_; wp_walk using wpAny_loadPart' hl)
      | (refine wpAny_ite_true (decide_eq_true c1) ?_; wp_walk using wpAny_loadPart' hl))
    exact ⟨_, rfl, h⟩
theorem fw_tuple_mul0 (l : Addr) (items : Array Value) (n : Nat) (dd : Option Addr) (sl : Array (Option Value)) (x : Int) (u : Tok) (c0 : (decide (x < -(2 ^ 63)) || decide (x ≥ 2 ^ 63)) = false) (c1 : (items.isEmpty || x == 1) = false) (c2 : (decide (x ≤ 0) || items.isEmpty) = true) :
    Meets (Builtin.«tuple.__mul__» ⟨[.ref l, .int x u], []⟩) (fun _ R s => s.heap.get? l = some { cls := .type "tuple", dict := dd, data := .seq items n, slots := sl } ∧
      R (.ok (.ret (Value.ref s.heap.objs.size))) { s with heap := s.heap.push { cls := Value.type "tuple", data := Data.seq #[] } }) :=
  .of_wp fun prog w A R s h => by
    obtain ⟨hp, g, d, tk, os⟩ := s
    obtain ⟨hl, h⟩ := h
    have f1 := AutoSeq1.idx_int
    wp_walk using wpAny_loadPart' hl
    repeat (first
      | (refine wpAny_ite_false (decide_eq_false (by rw [c0]; exact Bool.false_ne_true)) ?_; wp_walk using wpAny_loadPart' hl)
      | (refine wpAny_ite_false (decide_eq_false (by rw [c1]; exact Bool.false_ne_true)) ?_; wp_walk using wpAny_loadPart' hl)
      | (refine wpAny_ite_true (decide_eq_true c2) ?_; wp_walk using wpAny_loadPart' hl))
    exact ⟨_, rfl, h⟩
/-- a tuple times 1, times 0 -/
def rRepS (K : PySem.W.Frag) : R2 := fun x y H Q => ∃ l k xs, x = .ref l ∧ y = .int k ∧ SqT K H l xs ∧ xs ≠ [] ∧ ((k = 1 ∧ Q (.ref l) H) ∨ (k = 0 ∧ ∀ p, H p = none → Q (.ref p) (upd H p (.tup []))))
theorem op_repS {X : Cx} : OpR X (binaryOp .Mult) (rRepS X.K) := by
  intro pins s σ H x y v u Q I rx ry h
  obtain ⟨l, k, xs, rfl, rfl, hT, hne, h⟩ := h
  cases rx
  obtain ⟨t, rfl⟩ := ry
  obtain ⟨its, r, ⟨⟨cls, dd, data, sl⟩, ho, hc, n, hd⟩, hs⟩ := I.tuple hT
  simp only at hc hd
  subst hc hd
  have hn : its ≠ [] := fun e => hne (by
    have hle : its.length = xs.length := r.length.symm
    rw [e] at hle
    exact List.eq_nil_of_length_eq_zero hle.symm)
  have hi : its.toArray.isEmpty = false := by
    cases its with
    | nil => exact absurd rfl hn
    | cons a b => rfl
  rcases h with ⟨rfl, q⟩ | ⟨rfl, q⟩
  · refine wpAny_binaryOp_repeat_ref (T := "tuple") (U := "int") (by decide) ⟨_, ho, rfl⟩ (fun s' => typeIs_int s' 1 t) noFill_tuple_mul F.fills_int_mul F.slot_int_rmul repeat_tuple F.slot_int_index.lookup
      (call_meets F.slot_int_rmul (typeIs_int s 1 t) F.entry_int_rmul (F.args_int_rmul_2 _ _) (int_rmul_tuple 1 t l its.toArray n dd sl)
        ⟨ho, rfl, ⟨_, ho, rfl⟩, call_meets F.slot_tuple_mul ⟨_, ho, rfl⟩ F.entry_tuple_mul (F.args_tuple_mul_2 _ _) (fw_tuple_mul1 l its.toArray n dd sl 1 t (by decide) (by simp)) ⟨ho, ?_⟩⟩)
    exact ⟨.ref l, H, I, rfl, q⟩
  · refine wpAny_binaryOp_repeat_ref (T := "tuple") (U := "int") (by decide) ⟨_, ho, rfl⟩ (fun s' => typeIs_int s' 0 t) noFill_tuple_mul F.fills_int_mul F.slot_int_rmul repeat_tuple F.slot_int_index.lookup
      (call_meets F.slot_int_rmul (typeIs_int s 0 t) F.entry_int_rmul (F.args_int_rmul_2 _ _) (int_rmul_tuple 0 t l its.toArray n dd sl)
        ⟨ho, rfl, ⟨_, ho, rfl⟩, call_meets F.slot_tuple_mul ⟨_, ho, rfl⟩ F.entry_tuple_mul (F.args_tuple_mul_2 _ _) (fw_tuple_mul0 l its.toArray n dd sl 0 t (by decide) (by rw [hi]; rfl) (by simp)) ⟨ho, ?_⟩⟩)
    refine ⟨.ref s.heap.objs.size, _, I.laid (t' := s.toks) (o := .tup []) (fun b ob q => Heap.get?_push_of_some _ q) (Nat.le_refl _) ?_, rfl, q _ (I.hok.fresh (Nat.le_refl _))⟩
    exact ⟨Nat.zero_le _, [], .nil, IsTup.new _ _⟩
/-- list + list, wherever they stand -/
def rCatS (K : PySem.W.Frag) : R2 := fun x y H Q => ∃ l b xs zs, x = .ref l ∧ y = .ref b ∧ SqL K H l xs ∧ SqL K H b zs ∧ xs.length + zs.length ≤ sizeLine ∧ ∀ p, H p = none → Q (.ref p) (upd H p (.lst (xs ++ zs)))
theorem _root_.L2.Inv.lstS {X : Cx} {pins : List (Addr × Obj)} {σ : L2.St} {H : Hp} {s : Shared} {l : Addr} {xs : List V} (I : Inv X pins σ H s) (h : SqL X.K H l xs) : ∃ (its : List Value), Vals xs its ∧ xs.length = its.length ∧ ∃ o n, s.heap.get? l = some o ∧ o.cls = .type "list" ∧ o.dict = none ∧ o.data = .seq its.toArray n := by
  obtain ⟨its, rv, ⟨o, n, e, c, d, q⟩, _⟩ := I.list h
  exact ⟨its, rv, rv.length, o, n, e, c, d, q⟩
theorem op_floorW {X : Cx} : OpR X (binaryOp .FloorDiv) (rI (fun _ j => j ≠ 0 ∧ j.natAbs.log2 < 9000) fun i j => .int (i.fdiv j)) := opI fun i j _ _ _ _ _ hc q => floordiv_int hc.1 q (.inl (PyProof.noPylong_of_log2 hc.2))
end L2

set_option maxRecDepth 100000
set_option maxHeartbeats 4000000
namespace L2
open PySem PySem.Spec PyProof.Rows
theorem op_catS {X : Cx} : OpR X (binaryOp .Add) (rCatS X.K) := by
  intro pins s σ H x y v u Q I rx ry h
  obtain ⟨l, b, xs, zs, rfl, rfl, hH, hB, hz, q⟩ := h
  cases rx
  cases ry
  obtain ⟨its, r, hl, ⟨cls, dd, data, sl⟩, n, ho, hc, hdd, hd⟩ := I.lstS hH
  obtain ⟨its2, r2, hl2, ⟨cls2, dd2, data2, sl2⟩, n2, ho2, hc2, hdd2, hd2⟩ := I.lstS hB
  simp only at hc hd hc2 hd2
  subst hc hd hc2 hd2
  have hsz : its.toArray.size + its2.toArray.size ≤ sizeLine := by rw [List.size_toArray, List.size_toArray]; omega
  have e : its.toArray ++ its2.toArray = (its ++ its2).toArray := by simp
  refine concat_meets ⟨_, ho, rfl⟩ ⟨_, ho2, rfl⟩ noFill_list_add seq_list_add PySem.F.slot_list_add PySem.F.entry_list_add (PySem.F.args_list_add_2 _ _) (list_addW l b its.toArray its2.toArray n n2 dd dd2 sl sl2 hsz) ⟨ho, ho2, ?_⟩
  rw [e]
  exact ⟨.ref _, _, I.lnew (t' := s.toks) (r.append r2) (by rw [List.length_append]; omega), rfl, q _ I.fresh⟩
end L2
namespace Fw
open PySem PySem.Spec PyProof.Rows L2
section
variable {X : Cx} {ex : Nat → Addr}
theorem DpAll.appW {K : PySem.W.Frag} {H : Hp} {ds es : List PyData} {vs us : List V} (a : DpAll K H vs ds) (b : DpAll K H us es) : DpAll K H (vs ++ us) (ds ++ es) := Fw.DpAll.app a b
theorem DpAll.rep {K : PySem.W.Frag} {H : Hp} {ds : List PyData} {vs : List V} (a : DpAll K H vs ds) : ∀ k : Nat, DpAll K H (List.replicate k vs).flatten (List.replicate k ds).flatten
  | 0 => .nil
  | k + 1 => by
    rw [List.replicate_succ, List.replicate_succ, List.flatten_cons, List.flatten_cons]
    exact Fw.DpAll.app a (DpAll.rep a k)
theorem o_add : OpR X (binaryOp .Add) (rd2 (kxOf X ex) (lift2 1 addP)) := by
  intro pins s σ H x y v u Q I rx ry h
  obtain ⟨w, d1, d2, st, r1, r2, hH, d, st', e, fin⟩ := h
  obtain ⟨a, b, r, e1, e2, e3, rfl, rfl⟩ := lift2_ok e
  have q1 := view1_ok hH r1 e1
  have q2 := view1_ok hH r2 e2
  unfold addP at e3
  split at e3
  · rename_i i j
    cases e3
    have q1' : Dp X.K w.W x (.int i) := q1
    have q2' : Dp X.K w.W y (.int j) := q2
    have z1 := Dp.int_inv q1'
    have z2 := Dp.int_inv q2'
    subst z1 z2
    exact op_add pins s σ H _ _ v u Q I rx ry ⟨i, j, rfl, rfl, fin_here (κ := kxOf X ex) hH (.int _) fin⟩
  · rename_i i j
    split at e3
    · rename_i hl
      cases e3
      have q1' : Dp X.K w.W x (.str i) := q1
      have q2' : Dp X.K w.W y (.str j) := q2
      have z1 := Dp.str_inv q1'
      have z2 := Dp.str_inv q2'
      subst z1 z2
      exact op_add_str pins s σ H _ _ v u Q I rx ry ⟨i, j, rfl, rfl, lim_line hl, fin_here (κ := kxOf X ex) hH (.str _) fin⟩
    · cases e3
  · rename_i xs ys
    split at e3
    · rename_i hl
      cases e3
      have q1' : Dp X.K w.W x (.tuple xs) := q1
      have q2' : Dp X.K w.W y (.tuple ys) := q2
      obtain ⟨a, vs, rfl, s1, a1⟩ := Dp.tup_inv q1'
      obtain ⟨b, us, rfl, s2, a2⟩ := Dp.tup_inv q2'
      have m1 := sqT_mono (fun _ _ e => hH.wd e) s1
      have m2 := sqT_mono (fun _ _ e => hH.wd e) s2
      have l1 := Fw.DpAll.length a1
      have l2 := Fw.DpAll.length a2
      refine op_catA pins s σ H _ _ v u Q I rx ry ⟨a, b, vs, us, rfl, rfl, m1, m2, lim_line (by omega), fun z => ?_, fun _ z => ?_, fun _ _ p np => ?_⟩
      · subst z
        cases a1
        exact fin_here (κ := kxOf X ex) hH q2' fin
      · subst z
        cases a2
        rw [List.append_nil] at fin
        exact fin_here (κ := kxOf X ex) hH q1' fin
      · exact fin_tup (κ := kxOf X ex) hH np (Fw.DpAll.app a1 a2) fin
    · cases e3
  · rename_i xs ys
    split at e3
    · rename_i hl
      cases e3
      obtain ⟨a, vs, rfl, s1, a1⟩ := q1
      obtain ⟨b, us, rfl, s2, a2⟩ := q2
      have l1 := Fw.DpAll.length a1
      have l2 := Fw.DpAll.length a2
      exact op_catS pins s σ H _ _ v u Q I rx ry ⟨a, b, vs, us, rfl, rfl, s1, s2, lim_line (by omega), fun p np => fin_lst (κ := kxOf X ex) hH np (Fw.DpAll.app a1 a2) fin⟩
    · cases e3
  · cases e3
theorem o_int2 {op : Operator} {C : Int → Int → Prop} {g : Int → Int → Int} {f : PyData → PyData → Option PyData} (ho : OpR X (binaryOp op) (rI C fun i j => .int (g i j)))
    (hf : ∀ a b r, f a b = some r → ∃ i j, a = .int i ∧ b = .int j ∧ C i j ∧ r = .int (g i j)) : OpR X (binaryOp op) (rd2 (kxOf X ex) (lift2 1 f)) := by
  intro pins s σ H x y v u Q I rx ry h
  obtain ⟨w, d1, d2, st, r1, r2, hH, d, st', e, fin⟩ := h
  obtain ⟨a, b, r, e1, e2, e3, rfl, rfl⟩ := lift2_ok e
  have q1 := view1_ok hH r1 e1
  have q2 := view1_ok hH r2 e2
  obtain ⟨i, j, rfl, rfl, hc, rfl⟩ := hf a b r e3
  have q1' : Dp X.K w.W x (.int i) := q1
  have q2' : Dp X.K w.W y (.int j) := q2
  have z1 := Dp.int_inv q1'
  have z2 := Dp.int_inv q2'
  subst z1 z2
  exact ho pins s σ H _ _ v u Q I rx ry ⟨i, j, rfl, rfl, hc, fin_here (κ := kxOf X ex) hH (.int _) fin⟩
theorem o_sub : OpR X (binaryOp .Sub) (rd2 (kxOf X ex) (lift2 1 subP)) := o_int2 (C := fun _ _ => True) (g := fun i j => i - j) (op_sub.wk fun _ _ _ _ ⟨i, j, a, b, _, q⟩ => ⟨i, j, a, b, q⟩) fun a b r h => by
  unfold subP at h
  split at h
  · cases h; exact ⟨_, _, rfl, rfl, trivial, rfl⟩
  · cases h
theorem o_fdiv : OpR X (binaryOp .FloorDiv) (rd2 (kxOf X ex) (lift2 1 fdivP)) := o_int2 op_floorW fun a b r h => by
  unfold fdivP at h
  split at h
  · split at h
    · cases h; exact ⟨_, _, rfl, rfl, by assumption, rfl⟩
    · cases h
  · cases h
theorem o_mod : OpR X (binaryOp .Mod) (rd2 (kxOf X ex) (lift2 1 modP)) := o_int2 op_modN fun a b r h => by
  unfold modP at h
  split at h
  · split at h
    · cases h; exact ⟨_, _, rfl, rfl, by assumption, rfl⟩
    · cases h
  · cases h
theorem o_mul : OpR X (binaryOp .Mult) (rd2 (kxOf X ex) (lift2 1 mulP)) := by
  intro pins s σ H x y v u Q I rx ry h
  obtain ⟨w, d1, d2, st, r1, r2, hH, d, st', e, fin⟩ := h
  obtain ⟨a, b, r, e1, e2, e3, rfl, rfl⟩ := lift2_ok e
  have q1 := view1_ok hH r1 e1
  have q2 := view1_ok hH r2 e2
  unfold mulP at e3
  split at e3
  · rename_i i j
    split at e3
    · rename_i hm
      cases e3
      have q1' : Dp X.K w.W x (.int i) := q1
      have q2' : Dp X.K w.W y (.int j) := q2
      have z1 := Dp.int_inv q1'
      have z2 := Dp.int_inv q2'
      subst z1 z2
      exact op_mulW pins s σ H _ _ v u Q I rx ry ⟨i, j, rfl, rfl, show i.natAbs.log2 + j.natAbs.log2 < 1000000 from of_decide_eq_true hm, fin_here (κ := kxOf X ex) hH (.int _) fin⟩
    · cases e3
  · rename_i xs k
    split at e3
    · rename_i hc
      obtain ⟨h0, h1, hl, hne⟩ := hc
      cases e3
      have q1' : Dp X.K w.W x (.tuple xs) := q1
      have q2' : Dp X.K w.W y (.int k) := q2
      have z2 := Dp.int_inv q2'
      subst z2
      obtain ⟨a, vs, rfl, s1, a1⟩ := Dp.tup_inv q1'
      have m1 := sqT_mono (fun _ _ e => hH.wd e) s1
      have l1 := Fw.DpAll.length a1
      have nv : vs ≠ [] := fun z => by
        subst z
        exact hne (List.eq_nil_of_length_eq_zero l1.symm)
      by_cases k1 : k = 1
      · subst k1
        refine op_repS pins s σ H _ _ v u Q I rx ry ⟨a, 1, vs, rfl, rfl, m1, nv, .inl ⟨rfl, ?_⟩⟩
        have fl : (List.replicate (1 : Int).toNat xs).flatten = xs := by simp
        rw [fl] at fin
        exact fin_here (κ := kxOf X ex) hH q1' fin
      · by_cases k0 : k = 0
        · subst k0
          exact op_repS pins s σ H _ _ v u Q I rx ry ⟨a, 0, vs, rfl, rfl, m1, nv, .inr ⟨rfl, fun p np => fin_tup (κ := kxOf X ex) hH np (.nil : DpAll X.K w.W [] []) (by simpa using fin)⟩⟩
        · exact op_repT pins s σ H _ _ v u Q I rx ry ⟨a, k, vs, rfl, rfl, m1, nv, by omega, h1, by omega, fun p np => fin_tup (κ := kxOf X ex) hH np (DpAll.rep a1 _) fin⟩
    · cases e3
  · cases e3
theorem o_neg : UnR X (unaryOp .USub) (rd1 (kxOf X ex) (lift1 1 negP)) := by
  intro pins s σ H x v Q I rx h
  obtain ⟨w, d1, st, r1, hH, d, st', e, fin⟩ := h
  obtain ⟨a, r, e1, e3, rfl, rfl⟩ := lift1_ok e
  have q1 := view1_ok hH r1 e1
  unfold negP at e3
  split at e3
  · rename_i i
    cases e3
    have q1' : Dp X.K w.W x (.int i) := q1
    have z1 := Dp.int_inv q1'
    subst z1
    exact un_neg pins s σ H _ v Q I rx ⟨i, rfl, fin_here (κ := kxOf X ex) hH (.int _) fin⟩
  · cases e3

/-! ## comparisons -/
def okD (x y : PyData) : Bool := decide (min x.depth y.depth ≤ 64)
def eqP (x y : PyData) : Option PyData := if okD x y = true then some (.bool (PyData.eqv x y)) else none
def neP (x y : PyData) : Option PyData := if okD x y = true then some (.bool (!PyData.eqv x y)) else none
def notNone : PyData → Bool
  | .none => false
  | _ => true
theorem notNone_ne {x : PyData} (h : notNone x = true) : x ≠ .none := by rintro rfl; cases h
def cmpOk (x y : PyData) : Bool := PySem.W.alike x y && notNone x && okD x y
theorem cmpOk_of {x y : PyData} (h : cmpOk x y = true) : PySem.W.alike x y = true ∧ x ≠ .none ∧ min x.depth y.depth ≤ 64 := by
  unfold cmpOk at h
  rw [Bool.and_eq_true, Bool.and_eq_true] at h
  exact ⟨h.1.1, notNone_ne h.1.2, of_decide_eq_true h.2⟩
def ltP (x y : PyData) : Option PyData := if cmpOk x y = true then some (.bool (PySem.W.dataLt x y)) else none
def gtP (x y : PyData) : Option PyData := if cmpOk x y = true then some (.bool (PySem.W.dataLt y x)) else none
def leP (x y : PyData) : Option PyData := if cmpOk x y = true then some (.bool (!PySem.W.dataLt y x)) else none
def geP (x y : PyData) : Option PyData := if cmpOk x y = true then some (.bool (!PySem.W.dataLt x y)) else none
/-- a comparison by data -/
theorem o_cmp {op : CmpOp} {f : PyData → PyData → Option PyData} {k : Nat} (hk : k = 3)
    (hf : ∀ (pins : List (Addr × Obj)) (s : Shared) (σ : L2.St) (H : Hp) (x y : V) (v u : Value) (Q : VK) (a b r : PyData) (as bs : List Addr), Inv X pins σ H s → Reads s.heap v a as → Reads s.heap u b bs → a.plain = true → b.plain = true → f a b = some r →
      ∃ t, r = .bool t ∧ ∀ Q' : Value → Shared → Prop, Q' (.bool t) s → wpAny (model X.prog X.w) X.A (compareOp op v u) Q' X.xe s) : OpR X (compareOp op) (rd2 (kxOf X ex) (lift2 k f)) := by
  subst hk
  intro pins s σ H x y v u Q I rx ry h
  obtain ⟨w, d1, d2, st, r1, r2, hH, d, st', e, fin⟩ := h
  obtain ⟨a, b, r, e1, e2, e3, rfl, rfl⟩ := lift2_ok e
  have q1 := view_ok hH 3 r1 e1
  have q2 := view_ok hH 3 r2 e2
  obtain ⟨as, ra⟩ := Dp.reads I a x v q1 rx
  obtain ⟨bs, rb⟩ := Dp.reads I b y u q2 ry
  obtain ⟨t, rfl, hh⟩ := hf pins s σ H x y v u Q a b r as bs I ra rb (Dp.plain q1) (Dp.plain q2) e3
  exact hh _ ⟨.bl t, H, I, rfl, fin_here (κ := kxOf X ex) hH (.bl t) fin⟩
theorem o_eq (hu : X.A.units + 64 < cLine) : OpR X (compareOp .Eq) (rd2 (kxOf X ex) (lift2 3 eqP)) := o_cmp rfl fun pins s σ H x y v u Q a b r as bs I ra rb pa pb h => by
  unfold eqP at h
  split at h
  · rename_i hd
    cases h
    have hd' : min a.depth b.depth ≤ 64 := of_decide_eq_true hd
    exact ⟨_, rfl, fun Q' q => SeqAt.eq_plain ra rb pa pb (by omega) q⟩
  · cases h
theorem o_ne (hu : X.A.units + 64 < cLine) : OpR X (compareOp .NotEq) (rd2 (kxOf X ex) (lift2 3 neP)) := o_cmp rfl fun pins s σ H x y v u Q a b r as bs I ra rb pa pb h => by
  unfold neP at h
  split at h
  · rename_i hd
    cases h
    have hd' : min a.depth b.depth ≤ 64 := of_decide_eq_true hd
    exact ⟨_, rfl, fun Q' q => SeqAt.ne_plain ra rb pa pb (by omega) q⟩
  · cases h
theorem o_lt (hu : X.A.units + 64 < cLine) : OpR X (compareOp .Lt) (rd2 (kxOf X ex) (lift2 3 ltP)) := o_cmp rfl fun pins s σ H x y v u Q a b r as bs I ra rb pa pb h => by
  unfold ltP at h
  split at h
  · rename_i hc
    cases h
    obtain ⟨h1, h2, h3⟩ := cmpOk_of hc
    exact ⟨_, rfl, fun Q' q => PySem.W.lt_data ra rb h1 h2 (by omega) q⟩
  · cases h
theorem o_gt (hu : X.A.units + 64 < cLine) : OpR X (compareOp .Gt) (rd2 (kxOf X ex) (lift2 3 gtP)) := o_cmp rfl fun pins s σ H x y v u Q a b r as bs I ra rb pa pb h => by
  unfold gtP at h
  split at h
  · rename_i hc
    cases h
    obtain ⟨h1, h2, h3⟩ := cmpOk_of hc
    exact ⟨_, rfl, fun Q' q => PySem.W.gt_data ra rb h1 h2 (by omega) q⟩
  · cases h
theorem o_le (hu : X.A.units + 64 < cLine) : OpR X (compareOp .LtE) (rd2 (kxOf X ex) (lift2 3 leP)) := o_cmp rfl fun pins s σ H x y v u Q a b r as bs I ra rb pa pb h => by
  unfold leP at h
  split at h
  · rename_i hc
    cases h
    obtain ⟨h1, h2, h3⟩ := cmpOk_of hc
    exact ⟨_, rfl, fun Q' q => PySem.W.le_data ra rb h1 h2 (by omega) q⟩
  · cases h
theorem o_ge (hu : X.A.units + 64 < cLine) : OpR X (compareOp .GtE) (rd2 (kxOf X ex) (lift2 3 geP)) := o_cmp rfl fun pins s σ H x y v u Q a b r as bs I ra rb pa pb h => by
  unfold geP at h
  split at h
  · rename_i hc
    cases h
    obtain ⟨h1, h2, h3⟩ := cmpOk_of hc
    exact ⟨_, rfl, fun Q' q => PySem.W.ge_data ra rb h1 h2 (by omega) q⟩
  · cases h
/-- x in c: a list or a tuple of data -/
def inP (neg : Bool) (x c : PyData) : Option PyData := match c with
  | .list xs => if min (PyData.depthAll xs) x.depth ≤ 60 then some (.bool (if neg = true then !xs.any fun y => PyData.eqv y x else xs.any fun y => PyData.eqv y x)) else none
  | .tuple xs => if min (PyData.depthAll xs) x.depth ≤ 60 then some (.bool (if neg = true then !xs.any fun y => PyData.eqv y x else xs.any fun y => PyData.eqv y x)) else none
  | _ => none
theorem plain_list {xs : List PyData} (h : (PyData.list xs).plain = true) : PyData.plainAll xs = true := by simpa only [PyData.plain] using h
theorem plain_tuple {xs : List PyData} (h : (PyData.tuple xs).plain = true) : PyData.plainAll xs = true := by simpa only [PyData.plain] using h
theorem o_in (hu : X.A.units + 64 < cLine) : OpR X (compareOp .In) (rd2 (kxOf X ex) (lift2 3 (inP false))) := o_cmp rfl fun pins s σ H x y v u Q a b r as bs I ra rb pa pb h => by
  unfold inP at h
  split at h
  · split at h
    · rename_i hd
      cases h
      exact ⟨_, rfl, fun Q' q => SeqAt.in_list_data rb ra (plain_list pb) pa (by omega) (by simpa using q)⟩
    · cases h
  · split at h
    · rename_i hd
      cases h
      exact ⟨_, rfl, fun Q' q => SeqAt.in_tuple_data rb ra (plain_tuple pb) pa (by omega) (by simpa using q)⟩
    · cases h
  · cases h
theorem o_notin (hu : X.A.units + 64 < cLine) : OpR X (compareOp .NotIn) (rd2 (kxOf X ex) (lift2 3 (inP true))) := o_cmp rfl fun pins s σ H x y v u Q a b r as bs I ra rb pa pb h => by
  unfold inP at h
  split at h
  · split at h
    · rename_i hd
      cases h
      exact ⟨_, rfl, fun Q' q => SeqAt.notIn_list_data rb ra (plain_list pb) pa (by omega) (by simpa using q)⟩
    · cases h
  · split at h
    · rename_i hd
      cases h
      exact ⟨_, rfl, fun Q' q => SeqAt.notIn_tuple_data rb ra (plain_tuple pb) pa (by omega) (by simpa using q)⟩
    · cases h
  · cases h
/-- is None, is not None; is True .. -/
def isP (neg : Bool) (x y : PyData) : Option PyData := match y with
  | .none => some (.bool (if neg = true then notNone x else !notNone x))
  | .bool b => match x with
    | .bool a => some (.bool (if neg = true then !decide (a = b) else decide (a = b)))
    | _ => none
  | _ => none
theorem dec_none {v : V} {x : PyData} {K : PySem.W.Frag} {H : Hp} (r : Dp K H v x) : decide (v = .non) = !notNone x := by
  cases r <;> rfl
theorem o_is : OpR X (compareOp .Is) (rd2 (kxOf X ex) (lift2 1 (isP false))) := by
  intro pins s σ H x y v u Q I rx ry h
  obtain ⟨w, d1, d2, st, r1, r2, hH, d, st', e, fin⟩ := h
  obtain ⟨a, b, r, e1, e2, e3, rfl, rfl⟩ := lift2_ok e
  have q1 := (view1_ok hH r1 e1).dp hH
  have q2 := (view1_ok hH r2 e2).dp hH
  unfold isP at e3
  split at e3
  · cases e3
    cases q2
    refine op_isN pins s σ H _ _ v u Q I rx ry ⟨rfl, ?_⟩
    rw [dec_none q1]
    exact fin_here (κ := kxOf X ex) hH (.bl _) fin
  · split at e3
    · cases e3
      cases q1
      cases q2
      exact op_isBl pins s σ H _ _ v u Q I rx ry ⟨_, _, rfl, rfl, fin_here (κ := kxOf X ex) hH (.bl _) fin⟩
    · cases e3
  · cases e3
theorem o_isnot : OpR X (compareOp .IsNot) (rd2 (kxOf X ex) (lift2 1 (isP true))) := by
  intro pins s σ H x y v u Q I rx ry h
  obtain ⟨w, d1, d2, st, r1, r2, hH, d, st', e, fin⟩ := h
  obtain ⟨a, b, r, e1, e2, e3, rfl, rfl⟩ := lift2_ok e
  have q1 := (view1_ok hH r1 e1).dp hH
  have q2 := (view1_ok hH r2 e2).dp hH
  unfold isP at e3
  split at e3
  · cases e3
    cases q2
    refine op_notN pins s σ H _ _ v u Q I rx ry ⟨rfl, ?_⟩
    rw [dec_none q1, Bool.not_not]
    exact fin_here (κ := kxOf X ex) hH (.bl _) fin
  · split at e3
    · cases e3
      cases q1
      cases q2
      exact op_notBl pins s σ H _ _ v u Q I rx ry ⟨_, _, rfl, rfl, fin_here (κ := kxOf X ex) hH (.bl _) fin⟩
    · cases e3
  · cases e3

/-! ## subscripts, slices -/
def at1 {α : Type} (xs : List α) (i : Int) : Option α := atI xs i
/-- o[i]: of a tuple, a list, a mutable list, a text; d[k] -/
def strAt (z : Str) (i : Int) : Option PyData := if z.length ≤ 1000000 then (atI z.cps.toList i).map fun c => .str ⟨#[c]⟩ else none
def keyOf : PyData → Option Key
  | .int i => some (.inl i)
  | .str s => some (.inr s)
  | _ => none
def keyT : PyData → Option (List Key)
  | .tuple xs => xs.mapM keyOf
  | _ => none
def ixG : Fn2 := fun o i st => match o, i with
  | .p (.tuple xs), .p (.int k) => (atI xs k).map fun x => (.p x, st)
  | .p (.list xs), .p (.int k) => (atI xs k).map fun x => (.p x, st)
  | .p (.str z), .p (.int k) => (strAt z k).map fun x => (.p x, st)
  | .loc n, .p k => match st[n]? with
    | some (.lst ds) => match k with
      | .int j => (atI ds j).map fun x => (x, st)
      | _ => none
    | _ => none
  | _, _ => none
theorem ixN_lt {n : Nat} {i : Int} {j : Nat} (h : ixN n i = some j) : j < n := by
  unfold ixN at h
  split at h
  · split at h
    · cases h; omega
    · cases h
  · split at h
    · cases h; omega
    · cases h
theorem atI_rel {α β : Type} {xs : List α} {ys : List β} {k : Int} {x : α} (hl : xs.length = ys.length) (h : atI xs k = some x) : ∃ (j : Nat) (y : β), xs[j]? = some x ∧ ys[j]? = some y ∧ atI ys k = some y := by
  unfold atI at h
  cases q : ixN xs.length k with
  | none => rw [q] at h; cases h
  | some j =>
    rw [q] at h
    have h' : xs[j]? = some x := h
    have hj : j < ys.length := by rw [← hl]; exact ixN_lt q
    refine ⟨j, ys[j], h', by simp [hj], ?_⟩
    unfold atI
    rw [← hl, q]
    simp [hj]
theorem o_ix : IxR X (rd2 (kxOf X ex) ixG) := by
  intro value slice pins s σ H x y v u Q I rx ry h hs
  obtain ⟨w, d1, d2, st, r1, r2, hH, d, st', e, fin⟩ := h
  unfold ixG at e
  split at e
  · rename_i xs k
    cases q : atI xs k with
    | none => rw [q] at e; cases e
    | some z =>
      rw [q] at e
      cases e
      have r1' : Dp X.K w.W x (.tuple xs) := r1
      have r2' : Dp X.K w.W y (.int k) := r2
      obtain ⟨a, vs, rfl, s1, a1⟩ := Dp.tup_inv r1'
      have := Dp.int_inv r2'
      subst this
      obtain ⟨j, y', h1, h2, h3⟩ := atI_rel (Fw.DpAll.length a1).symm q
      obtain ⟨y'', h4, h5⟩ := DpAll.get a1 h1
      rw [h2] at h4; cases h4
      exact ix_tup value slice pins s σ H _ _ v u Q I rx ry ⟨a, vs, k, y', rfl, rfl, sqT_mono (fun _ _ e => hH.wd e) s1, h3, fin_here (κ := kxOf X ex) hH h5 fin⟩ hs
  · rename_i xs k
    cases q : atI xs k with
    | none => rw [q] at e; cases e
    | some z =>
      rw [q] at e
      cases e
      have r1' : Dp X.K w.W x (.list xs) := r1
      have r2' : Dp X.K w.W y (.int k) := r2
      obtain ⟨a, vs, rfl, s1, a1⟩ := Dp.lst_inv r1'
      have := Dp.int_inv r2'
      subst this
      obtain ⟨j, y', h1, h2, h3⟩ := atI_rel (Fw.DpAll.length a1).symm q
      obtain ⟨y'', h4, h5⟩ := DpAll.get a1 h1
      rw [h2] at h4; cases h4
      exact ix_list value slice pins s σ H _ _ v u Q I rx ry ⟨a, vs, k, y', rfl, rfl, sqL_mono (fun _ _ e => hH.wd e) s1, h3, fin_here (κ := kxOf X ex) hH h5 fin⟩ hs
  · rename_i z k
    unfold strAt at e
    split at e
    · rename_i hz
      cases q : atI z.cps.toList k with
      | none => rw [q] at e; cases e
      | some c =>
        rw [q] at e
        cases e
        have r1' : Dp X.K w.W x (.str z) := r1
        have r2' : Dp X.K w.W y (.int k) := r2
        have := Dp.str_inv r1'
        subst this
        have := Dp.int_inv r2'
        subst this
        exact ix_str value slice pins s σ H _ _ v u Q I rx ry ⟨z, k, c, rfl, rfl, lim_line hz, q, fin_here (κ := kxOf X ex) hH (.str _) fin⟩ hs
    · cases e
  · rename_i n k
    cases q : st[n]? with
    | none => rw [q] at e; cases e
    | some b =>
      rw [q] at e
      cases b with
      | lst ds =>
        cases k with
        | int j =>
          have e' : (atI ds j).map (fun x => (x, st)) = some (d, st') := e
          cases q2 : atI ds j with
          | none => rw [q2] at e'; cases e'
          | some z =>
            rw [q2] at e'
            cases e'
            obtain ⟨a, rfl, ha⟩ := r1
            have r2' : Dp X.K w.W y (.int j) := r2
            have := Dp.int_inv r2'
            subst this
            obtain ⟨o, ho, vs, rfl, rl⟩ := hH.obs n a _ ha q
            obtain ⟨i, y', h1, h2, h3⟩ := atI_rel rl.length q2
            obtain ⟨y'', h4, h5⟩ := rl.get h1
            rw [h2] at h4; cases h4
            exact ix_list value slice pins s σ H _ _ v u Q I rx ry ⟨a, vs, j, y', rfl, rfl, SqL.of ho, h3, fin w H y' (Wd.Le.refl w) hH h5⟩ hs
        | _ => cases e
      | _ => cases e
  · cases e
end
end Fw

set_option maxRecDepth 100000
set_option maxHeartbeats 4000000
namespace Fw
open PySem PySem.Spec PyProof.Rows L2
theorem _root_.L2.PO.wk {X : Cx} {e : Option Expr} {t t' : TO} (h : PO X e t) (q : ∀ σ H Q, t' σ H Q → t σ H Q) : PO X e t' := ⟨fun pins s σ H Q I hw => h.run pins s σ H Q I (q σ H Q hw)⟩
theorem _root_.L2.PI.wk {X : Cx} {tg e : Expr} {t t' : TI} (h : PI X tg e t) (q : ∀ σ H Q, t' σ H Q → t σ H Q) : PI X tg e t' := ⟨fun pins s σ H Q I hw => h.run pins s σ H Q I (q σ H Q hw)⟩
section
variable {X : Cx} {κ : Kx} {Wx : WX} {σ : L2.St} {H : Hp} {ma mb : Env' → M D} {ml mh : Env' → M (Option Int)} {a b e : Expr} {pos : Pos} {ex : Nat → Addr}
def rdO (κ : Kx) (m : Env' → M (Option Int)) (Wx : WX) : TO := fun σ H Q => ∃ w env st, RelE κ w env σ ∧ HoldK κ w st H ∧ PostG κ Wx σ w (m env st) (fun o _ _ H' => Q o H')
def oNone : Env' → M (Option Int) := fun _ => ret none
def asI (d : D) : Option Int := match d with
  | .p (.int i) => some i
  | _ => none
theorem asI_shape {x : D} {w : Wd} {v : V} {i : Int} (r : RelD κ.K w x v) (e : asI x = some i) : v = .int i := by
  cases x with
  | loc n => cases e
  | p y =>
    cases y with
    | int j =>
      cases e
      have r' : Dp κ.K w.W v (.int i) := r
      exact Dp.int_inv r'
    | _ => cases e
def oSome (m : Env' → M D) : Env' → M (Option Int) := fun env => bnd (m env) fun d => match asI d with
  | some i => ret (some i)
  | none => bad
theorem r_onone : PO X none (rdO κ oNone Wx) := po_none.wk fun σ H Q h => by
  obtain ⟨w, env, st, hE, hH, hp⟩ := h
  exact PostG.ret (C := fun o _ _ H' => Q o H') hH hp
theorem r_osome (ha : PE X a (rdE κ ma Wx)) : PO X (some a) (rdO κ (oSome ma) Wx) := (po_some ha).wk fun σ H Q h => by
  obtain ⟨w, env, st, hE, hH, hp⟩ := h
  obtain ⟨w0, env0, st0, a0, b0, c0⟩ := rd_one hE hH hp
  refine ⟨w0, env0, st0, a0, b0, c0.imp fun d st' w' H' le hh q v rv => ?_⟩
  obtain ⟨w1, x, st1, _, r1, _, hH1, hp1⟩ := q v rv
  cases q2 : asI x with
  | none => rw [q2] at hp1; exact hp1.elim
  | some i =>
    rw [q2] at hp1
    exact ⟨i, asI_shape r1 q2, PostG.ret (C := fun o _ _ H' => Q o H') hH1 hp1⟩
/-- slices -/
def cutL {α : Type} (xs : List α) (lo hi : Option Int) : List α := (xs.drop (HT.sIx xs.length 0 lo)).take (HT.sIx xs.length xs.length hi - HT.sIx xs.length 0 lo)
def slP (x : PyData) (lo hi : Option Int) : Option PyData := match x with
  | .tuple xs => some (.tuple (cutL xs lo hi))
  | .list xs => some (.list (cutL xs lo hi))
  | _ => none
def mSl (ma : Env' → M D) (ml mh : Env' → M (Option Int)) : Env' → M D := fun env => bnd (ma env) fun x => bnd (ml env) fun lo => bnd (mh env) fun hi => lft (lift1 1 (fun y => slP y lo hi) x)
theorem DpAll.drop {K : PySem.W.Frag} {H : Hp} : ∀ {ds : List PyData} {vs : List V} (n : Nat), DpAll K H vs ds → DpAll K H (vs.drop n) (ds.drop n)
  | _, _, 0, r => r
  | [], _, n + 1, r => by cases r; exact .nil
  | d :: ds, _, n + 1, r => by
    cases r with
    | cons a b => exact DpAll.drop n b
theorem DpAll.take {K : PySem.W.Frag} {H : Hp} : ∀ {ds : List PyData} {vs : List V} (n : Nat), DpAll K H vs ds → DpAll K H (vs.take n) (ds.take n)
  | _, _, 0, r => .nil
  | [], _, n + 1, r => by cases r; exact .nil
  | d :: ds, _, n + 1, r => by
    cases r with
    | cons a b => exact .cons a (DpAll.take n b)
theorem DpAll.cut {K : PySem.W.Frag} {H : Hp} {ds : List PyData} {vs : List V} (lo hi : Option Int) (r : DpAll K H vs ds) : DpAll K H (cutV vs lo hi) (cutL ds lo hi) := by
  unfold cutV cutL
  rw [Fw.DpAll.length r]
  exact DpAll.take _ (DpAll.drop _ r)
def rdSl (κ : Kx) : V → Option Int → Option Int → Hp → VK → Prop := fun v lo hi H Q => ∃ w x st, RelD κ.K w x v ∧ HoldK κ w st H ∧ Fin κ w (lift1 1 (fun y => slP y lo hi) x st) Q
theorem SlR_ok : SlR X (rdSl (kxOf X ex)) := by
  intro pins s σ H x v vl vu lo hi sl Q I rx hs pl pu h
  obtain ⟨w, d1, st, r1, hH, d, st', e, fin⟩ := h
  obtain ⟨a, r, e1, e3, rfl, rfl⟩ := lift1_ok e
  have q1 := view1_ok hH r1 e1
  unfold slP at e3
  split at e3
  · rename_i xs
    cases e3
    have q1' : Dp X.K w.W x (.tuple xs) := q1
    obtain ⟨b, vs, rfl, s1, a1⟩ := Dp.tup_inv q1'
    have l1 := Fw.DpAll.length a1
    refine sl_tupA pins s σ H _ v vl vu lo hi sl Q I rx hs pl pu ⟨b, vs, rfl, sqT_mono (fun _ _ e => hH.wd e) s1, fun z => ?_, fun _ p np => fin_tup (κ := kxOf X ex) hH np (DpAll.cut lo hi a1) fin⟩
    have e4 : cutL xs lo hi = xs := by
      unfold cutL
      rw [l1] at z
      rw [z.1, z.2]
      simp
    rw [e4] at fin
    exact fin_here (κ := kxOf X ex) hH q1' fin
  · rename_i xs
    cases e3
    obtain ⟨b, vs, rfl, s1, a1⟩ := q1
    exact sl_list pins s σ H _ v vl vu lo hi sl Q I rx hs pl pu ⟨b, vs, rfl, s1, fun p np => fin_lst (κ := kxOf X ex) hH np (DpAll.cut lo hi a1) fin⟩
  · cases e3
variable {lo hi : Option Expr} {p2 : Pos}
theorem r_slice (ha : PE X a (rdE (kxOf X ex) ma Wx)) (hl : PO X lo (rdO (kxOf X ex) ml Wx)) (hu : PO X hi (rdO (kxOf X ex) mh Wx)) : PE X (.Subscript a (.Slice lo hi none p2) pos) (rdE (kxOf X ex) (mSl ma ml mh) Wx) := (pe_slice SlR_ok ha hl hu).wk fun σ H Q h => by
  obtain ⟨w, env, st, hE, hH, hp⟩ := h
  obtain ⟨w0, env0, st0, a0, b0, c0⟩ := rd_one hE hH hp
  refine ⟨w0, env0, st0, a0, b0, c0.imp fun d st' w' H' le hh q v rv => ?_⟩
  obtain ⟨w1, x, st1, _, r1, hE1, hH1, hp1⟩ := q v rv
  refine ⟨w1, env, st1, hE1, hH1, (PostG.bnd hp1).imp fun lo st2 w2 H2 le2 hH2 hp2 => ?_⟩
  refine ⟨w2, env, st2, hE1.mono le2, hH2, (PostG.bnd hp2).imp fun hi st3 w3 H3 le3 hH3 hp3 => ?_⟩
  exact ⟨w3, x, st3, r1.mono (le2.trans le3), hH3, Fin.of hp3⟩
/-- xs[::-1] of a list -/
def revP : PyData → Option PyData
  | .list xs => some (.list xs.reverse)
  | _ => none
theorem DpAll.rev {K : PySem.W.Frag} {H : Hp} : ∀ {ds : List PyData} {vs : List V}, DpAll K H vs ds → DpAll K H vs.reverse ds.reverse
  | [], _, r => by cases r; exact .nil
  | d :: ds, _, r => by
    cases r with
    | cons a b =>
      rw [List.reverse_cons, List.reverse_cons]
      exact Fw.DpAll.app (DpAll.rev b) (.cons a .nil)
theorem r_revL {k : Nat} {p1 p2 p3 : Pos} (ha : PE X a (rdE (kxOf X ex) ma Wx)) : PE X (.Subscript a (.Slice none none (some (.UnaryOp .USub (.Constant (.int 1) k p1) p2)) p3) pos) (rdE (kxOf X ex) (m1 ma (lift1 1 revP)) Wx) := (pe_revL ha).wk fun σ H Q h => by
  obtain ⟨w0, env0, st0, a0, b0, c0⟩ := rd_m1 h
  refine ⟨w0, env0, st0, a0, b0, c0.imp fun d st' w' H' le hh q v rv => ?_⟩
  obtain ⟨w1, x, st1, r1, hH1, d', st2, e, fin⟩ := q v rv
  obtain ⟨y, r, e1, e3, rfl, rfl⟩ := lift1_ok e
  have q1 := view1_ok hH1 r1 e1
  unfold revP at e3
  split at e3
  · cases e3
    obtain ⟨b, vs, rfl, s1, a1⟩ := q1
    exact ⟨b, vs, rfl, s1, fun p np => fin_lst (κ := kxOf X ex) hH1 np (DpAll.rev a1) fin⟩
  · cases e3
end

/-! ## calls of built-ins -/
def gL1 (f : Fn1) : FnL := fun ds st => match ds with
  | [d] => f d st
  | _ => none
def gL2 (f : Fn2) : FnL := fun ds st => match ds with
  | [d, e] => f d e st
  | _ => none
theorem CallR.wk {X : Cx} {f : Value} {r r' : List V → Hp → VK → Prop} (h : CallR X f r) (q : ∀ vs H Q, r' vs H Q → r vs H Q) : CallR X f r' := fun pins s σ H vs us Q I rv hw => h pins s σ H vs us Q I rv (q _ _ _ hw)
section
variable {X : Cx} {κ : Kx} {ex : Nat → Addr} {H : Hp} {Q : VK} {vs : List V}
theorem gL1_inv {f : Fn1} (h : rdL κ (gL1 f) vs H Q) : ∃ w x v st, vs = [v] ∧ RelD κ.K w x v ∧ HoldK κ w st H ∧ Fin κ w (f x st) Q := by
  obtain ⟨w, xs, st, rl, hH, d, st', e, fin⟩ := h
  unfold gL1 at e
  split at e
  · cases rl with
    | cons r1 r2 =>
      cases r2
      exact ⟨w, _, _, st, rfl, r1, hH, d, st', e, fin⟩
  · cases e
theorem gL2_inv {f : Fn2} (h : rdL κ (gL2 f) vs H Q) : ∃ w x y v u st, vs = [v, u] ∧ RelD κ.K w x v ∧ RelD κ.K w y u ∧ HoldK κ w st H ∧ Fin κ w (f x y st) Q := by
  obtain ⟨w, xs, st, rl, hH, d, st', e, fin⟩ := h
  unfold gL2 at e
  split at e
  · cases rl with
    | cons r1 r2 =>
      cases r2 with
      | cons r2 r3 =>
        cases r3
        exact ⟨w, _, _, _, _, st, rfl, r1, r2, hH, d, st', e, fin⟩
  · cases e
/-- len -/
def lenG : Fn1 := fun d st => match d with
  | .p (.tuple xs) => some (.p (.int xs.length), st)
  | .p (.list xs) => some (.p (.int xs.length), st)
  | .p (.str z) => if z.length ≤ 1000000 then some (.p (.int z.length), st) else none
  | .loc n => match st[n]? with
    | some (.lst ds) => some (.p (.int ds.length), st)
    | _ => none
  | _ => none
theorem c_len : CallR X (.builtin "len") (rdL (kxOf X ex) (gL1 lenG)) := by
  intro pins s σ H vs us Q I rv h
  obtain ⟨w, x, v, st, rfl, r1, hH, d, st', e, fin⟩ := gL1_inv h
  unfold lenG at e
  split at e
  · rename_i xs
    cases e
    have r1' : Dp X.K w.W v (.tuple xs) := r1
    obtain ⟨b, vs, rfl, s1, a1⟩ := Dp.tup_inv r1'
    rw [← Fw.DpAll.length a1] at fin
    exact call_len_seq pins s σ H _ us Q I rv ⟨b, vs, rfl, .inr (sqT_mono (fun _ _ e => hH.wd e) s1), fin_here (κ := kxOf X ex) hH (.int _) fin⟩
  · rename_i xs
    cases e
    have r1' : Dp X.K w.W v (.list xs) := r1
    obtain ⟨b, vs, rfl, s1, a1⟩ := Dp.lst_inv r1'
    rw [← Fw.DpAll.length a1] at fin
    exact call_len_seq pins s σ H _ us Q I rv ⟨b, vs, rfl, .inl (sqL_mono (fun _ _ e => hH.wd e) s1), fin_here (κ := kxOf X ex) hH (.int _) fin⟩
  · rename_i z
    split at e
    · rename_i hz
      cases e
      have r1' : Dp X.K w.W v (.str z) := r1
      have := Dp.str_inv r1'
      subst this
      exact call_len_str pins s σ H _ us Q I rv ⟨z, rfl, lim_line hz, fin_here (κ := kxOf X ex) hH (.int _) fin⟩
    · cases e
  · rename_i n
    split at e
    · rename_i ds q
      cases e
      obtain ⟨a, rfl, ha⟩ := r1
      obtain ⟨o, ho, vs, rfl, rl⟩ := hH.obs n a _ ha q
      rw [rl.length] at fin
      exact call_len_seq pins s σ H _ us Q I rv ⟨a, vs, rfl, .inl (SqL.of ho), fin_here (κ := kxOf X ex) hH (.int _) fin⟩
    · cases e
  · cases e
/-- abs, int -/
def absP : PyData → Option PyData
  | .int i => some (.int (if i < 0 then -i else i))
  | _ => none
def intP : PyData → Option PyData
  | .int i => some (.int i)
  | .bool b => some (.int (if b then 1 else 0))
  | _ => none
theorem c_abs : CallR X (.builtin "abs") (rdL (kxOf X ex) (gL1 (lift1 1 absP))) := by
  intro pins s σ H vs us Q I rv h
  obtain ⟨w, x, v, st, rfl, r1, hH, d, st', e, fin⟩ := gL1_inv h
  obtain ⟨y, r, e1, e3, rfl, rfl⟩ := lift1_ok e
  have q1 := (view1_ok hH r1 e1).dp hH
  unfold absP at e3
  split at e3
  · cases e3
    have := Dp.int_inv q1
    subst this
    exact call_abs pins s σ H _ us Q I rv ⟨_, rfl, fin_here (κ := kxOf X ex) hH (.int _) fin⟩
  · cases e3
theorem c_int : CallR X (.type "int") (rdL (kxOf X ex) (gL1 (lift1 1 intP))) := by
  intro pins s σ H vs us Q I rv h
  obtain ⟨w, x, v, st, rfl, r1, hH, d, st', e, fin⟩ := gL1_inv h
  obtain ⟨y, r, e1, e3, rfl, rfl⟩ := lift1_ok e
  have q1 := (view1_ok hH r1 e1).dp hH
  unfold intP at e3
  split at e3
  · cases e3
    have := Dp.int_inv q1
    subst this
    exact call_int1 pins s σ H _ us Q I rv (.inl ⟨_, rfl, fin_here (κ := kxOf X ex) hH (.int _) fin⟩)
  · cases e3
    have := Dp.bl_inv q1
    subst this
    exact call_int1 pins s σ H _ us Q I rv (.inr ⟨_, rfl, fin_here (κ := kxOf X ex) hH (.int _) fin⟩)
  · cases e3
/-- max, min of two ints -/
def max2P : PyData → PyData → Option PyData
  | .int i, .int j => some (.int (if j > i then j else i))
  | _, _ => none
def min2P : PyData → PyData → Option PyData
  | .int i, .int j => some (.int (if j < i then j else i))
  | _, _ => none
theorem c_max2 (hc : X.calm = true) : CallR X (.builtin "max") (rdL (kxOf X ex) (gL2 (lift2 1 max2P))) := by
  intro pins s σ H vs us Q I rv h
  obtain ⟨w, x, y, v, u, st, rfl, r1, r2, hH, d, st', e, fin⟩ := gL2_inv h
  obtain ⟨a, b, r, e1, e2, e3, rfl, rfl⟩ := lift2_ok e
  have q1 := (view1_ok hH r1 e1).dp hH
  have q2 := (view1_ok hH r2 e2).dp hH
  unfold max2P at e3
  split at e3
  · cases e3
    have z1 := Dp.int_inv q1
    have z2 := Dp.int_inv q2
    subst z1 z2
    exact call_max2 hc pins s σ H _ us Q I rv ⟨_, _, rfl, fin_here (κ := kxOf X ex) hH (.int _) fin⟩
  · cases e3
theorem c_min2 (hc : X.calm = true) : CallR X (.builtin "min") (rdL (kxOf X ex) (gL2 (lift2 1 min2P))) := by
  intro pins s σ H vs us Q I rv h
  obtain ⟨w, x, y, v, u, st, rfl, r1, r2, hH, d, st', e, fin⟩ := gL2_inv h
  obtain ⟨a, b, r, e1, e2, e3, rfl, rfl⟩ := lift2_ok e
  have q1 := (view1_ok hH r1 e1).dp hH
  have q2 := (view1_ok hH r2 e2).dp hH
  unfold min2P at e3
  split at e3
  · cases e3
    have z1 := Dp.int_inv q1
    have z2 := Dp.int_inv q2
    subst z1 z2
    exact call_min2 hc pins s σ H _ us Q I rv ⟨_, _, rfl, fin_here (κ := kxOf X ex) hH (.int _) fin⟩
  · cases e3
/-- all, any of bools -/
def boolsOf : List PyData → Option (List Bool)
  | [] => some []
  | .bool b :: r => (boolsOf r).map (b :: ·)
  | _ :: _ => none
theorem boolsOf_eq : ∀ {xs : List PyData} {bs : List Bool}, boolsOf xs = some bs → xs = bs.map .bool
  | [], bs, h => by
    have : ([] : List Bool) = bs := Option.some.inj h
    subst this; rfl
  | x :: r, bs, h => by
    cases x with
    | bool b =>
      have h' : (boolsOf r).map (b :: ·) = some bs := h
      cases q : boolsOf r with
      | none => rw [q] at h'; cases h'
      | some cs =>
        rw [q] at h'
        have e : b :: cs = bs := Option.some.inj h'
        subst e
        rw [boolsOf_eq q]; rfl
    | _ => cases h
theorem boolsOf_map (bs : List Bool) : boolsOf (bs.map .bool) = some bs := by
  induction bs with
  | nil => rfl
  | cons b r ih => show (boolsOf (r.map .bool)).map (b :: ·) = _; rw [ih]; rfl
def allP : PyData → Option PyData
  | .list xs => (boolsOf xs).map fun bs => .bool (bs.all id)
  | _ => none
def anyP : PyData → Option PyData
  | .list xs => (boolsOf xs).map fun bs => .bool (bs.any id)
  | _ => none
theorem c_all (hc : X.calm = true) : CallR X (.builtin "all") (rdL (kxOf X ex) (gL1 (lift1 1 allP))) := by
  intro pins s σ H vs us Q I rv h
  obtain ⟨w, x, v, st, rfl, r1, hH, d, st', e, fin⟩ := gL1_inv h
  obtain ⟨y, r, e1, e3, rfl, rfl⟩ := lift1_ok e
  have q1 := view1_ok hH r1 e1
  unfold allP at e3
  split at e3
  · rename_i xs
    cases q : boolsOf xs with
    | none => rw [q] at e3; cases e3
    | some bs =>
      rw [q] at e3
      cases e3
      obtain ⟨b, vs, rfl, s1, a1⟩ := q1
      rw [boolsOf_eq q] at a1
      rw [Dp.bools a1] at s1
      exact cr_all hc pins s σ H _ us Q I rv ⟨b, bs, rfl, s1, fin_here (κ := kxOf X ex) hH (.bl _) fin⟩
  · cases e3
theorem c_any (hc : X.calm = true) : CallR X (.builtin "any") (rdL (kxOf X ex) (gL1 (lift1 1 anyP))) := by
  intro pins s σ H vs us Q I rv h
  obtain ⟨w, x, v, st, rfl, r1, hH, d, st', e, fin⟩ := gL1_inv h
  obtain ⟨y, r, e1, e3, rfl, rfl⟩ := lift1_ok e
  have q1 := view1_ok hH r1 e1
  unfold anyP at e3
  split at e3
  · rename_i xs
    cases q : boolsOf xs with
    | none => rw [q] at e3; cases e3
    | some bs =>
      rw [q] at e3
      cases e3
      obtain ⟨b, vs, rfl, s1, a1⟩ := q1
      rw [boolsOf_eq q] at a1
      rw [Dp.bools a1] at s1
      exact cr_any hc pins s σ H _ us Q I rv ⟨b, bs, rfl, s1, fin_here (κ := kxOf X ex) hH (.bl _) fin⟩
  · cases e3
/-- sum of ints -/
def intsOf : List PyData → Option (List Int)
  | [] => some []
  | .int b :: r => (intsOf r).map (b :: ·)
  | _ :: _ => none
theorem intsOf_eq : ∀ {xs : List PyData} {bs : List Int}, intsOf xs = some bs → xs = bs.map .int
  | [], bs, h => by
    have : ([] : List Int) = bs := Option.some.inj h
    subst this; rfl
  | x :: r, bs, h => by
    cases x with
    | int b =>
      have h' : (intsOf r).map (b :: ·) = some bs := h
      cases q : intsOf r with
      | none => rw [q] at h'; cases h'
      | some cs =>
        rw [q] at h'
        have e : b :: cs = bs := Option.some.inj h'
        subst e
        rw [intsOf_eq q]; rfl
    | _ => cases h
theorem intsOf_map (bs : List Int) : intsOf (bs.map .int) = some bs := by
  induction bs with
  | nil => rfl
  | cons b r ih => show (intsOf (r.map .int)).map (b :: ·) = _; rw [ih]; rfl
def sumP : PyData → Option PyData
  | .list xs => (intsOf xs).map fun bs => .int bs.sum
  | .tuple xs => (intsOf xs).map fun bs => .int bs.sum
  | _ => none
theorem c_sum (hc : X.calm = true) : CallR X (.builtin "sum") (rdL (kxOf X ex) (gL1 (lift1 1 sumP))) := by
  intro pins s σ H vs us Q I rv h
  obtain ⟨w, x, v, st, rfl, r1, hH, d, st', e, fin⟩ := gL1_inv h
  obtain ⟨y, r, e1, e3, rfl, rfl⟩ := lift1_ok e
  have q1 := view1_ok hH r1 e1
  unfold sumP at e3
  split at e3
  · rename_i xs
    cases q : intsOf xs with
    | none => rw [q] at e3; cases e3
    | some bs =>
      rw [q] at e3
      cases e3
      obtain ⟨b, vs, rfl, s1, a1⟩ := q1
      rw [intsOf_eq q] at a1
      rw [Dp.ints a1] at s1
      exact cr_sum hc pins s σ H _ us Q I rv ⟨b, bs, rfl, s1, fin_here (κ := kxOf X ex) hH (.int _) fin⟩
  · rename_i xs
    cases q : intsOf xs with
    | none => rw [q] at e3; cases e3
    | some bs =>
      rw [q] at e3
      cases e3
      have q1' : Dp X.K w.W v (.tuple xs) := q1
      obtain ⟨b, vs, rfl, s1, a1⟩ := Dp.tup_inv q1'
      rw [intsOf_eq q] at a1
      have s2 := sqT_mono (fun _ _ e => hH.wd e) s1
      rw [Dp.ints a1] at s2
      obtain ⟨its, rv2, ht, hz⟩ := I.tuple s2
      rw [Vals.ref1 rv]
      have hi := rv2.ints
      obtain ⟨xs2, hx⟩ := hi.allInts.items
      have hn : numsOf its.toArray.toList = bs := by rw [show its.toArray.toList = its from rfl, hi.numsOf]
      have hl : s.heap.IsTuple b its.toArray := ht
      rw [hx] at hl hn
      rw [nums_intItems] at hn
      refine PySem.W.ktm_sumG (I.ok.hd hc) hl fun h' tk t' hk => ?_
      rw [preSum_eq, List.take_of_length_le (by simp), hn]
      exact ⟨.int _, H, I.kept (t' := tk) hk, ⟨_, rfl⟩, fin_here (κ := kxOf X ex) hH (.int _) fin⟩
  · cases e3
/-- tuple(xs), list(xs) -/
def tupP : PyData → Option PyData
  | .list xs => some (.tuple xs)
  | .tuple xs => some (.tuple xs)
  | _ => none
theorem c_tuple : CallR X (.type "tuple") (rdL (kxOf X ex) (gL1 (lift1 1 tupP))) := by
  intro pins s σ H vs us Q I rv h
  obtain ⟨w, x, v, st, rfl, r1, hH, d, st', e, fin⟩ := gL1_inv h
  obtain ⟨y, r, e1, e3, rfl, rfl⟩ := lift1_ok e
  have q1 := view1_ok hH r1 e1
  unfold tupP at e3
  split at e3
  · rename_i xs
    cases e3
    obtain ⟨b, vs, rfl, s1, a1⟩ := q1
    exact call_tuple_of pins s σ H _ us Q I rv ⟨b, vs, rfl, .inl ⟨s1, fun l nl => fin_tup (κ := kxOf X ex) hH nl a1 fin⟩⟩
  · rename_i xs
    cases e3
    have q1' : Dp X.K w.W v (.tuple xs) := q1
    obtain ⟨b, vs, rfl, s1, a1⟩ := Dp.tup_inv q1'
    exact call_tuple_of pins s σ H _ us Q I rv ⟨b, vs, rfl, .inr ⟨sqT_mono (fun _ _ e => hH.wd e) s1, fin_here (κ := kxOf X ex) hH q1' fin⟩⟩
  · cases e3
def lstP : PyData → Option PyData
  | .list xs => some (.list xs)
  | .tuple xs => some (.list xs)
  | _ => none
theorem c_list : CallR X (.type "list") (rdL (kxOf X ex) (gL1 (lift1 1 lstP))) := by
  intro pins s σ H vs us Q I rv h
  obtain ⟨w, x, v, st, rfl, r1, hH, d, st', e, fin⟩ := gL1_inv h
  obtain ⟨y, r, e1, e3, rfl, rfl⟩ := lift1_ok e
  have q1 := view1_ok hH r1 e1
  unfold lstP at e3
  split at e3
  · rename_i xs
    cases e3
    obtain ⟨b, vs, rfl, s1, a1⟩ := q1
    exact call_list_of pins s σ H _ us Q I rv ⟨b, vs, rfl, .inl s1, fun l nl => fin_lst (κ := kxOf X ex) hH nl a1 fin⟩
  · rename_i xs
    cases e3
    have q1' : Dp X.K w.W v (.tuple xs) := q1
    obtain ⟨b, vs, rfl, s1, a1⟩ := Dp.tup_inv q1'
    exact call_list_of pins s σ H _ us Q I rv ⟨b, vs, rfl, .inr (sqT_mono (fun _ _ e => hH.wd e) s1), fun l nl => fin_lst (κ := kxOf X ex) hH nl a1 fin⟩
  · cases e3
/-- list(xs), a mutable one -/
def lstM : Fn1 := fun d st => match view 1 d st with
  | some (.list xs) => some (.loc st.length, st ++ [.lst (xs.map D.p)])
  | some (.tuple xs) => some (.loc st.length, st ++ [.lst (xs.map D.p)])
  | _ => none
theorem wf_pure {xs : List PyData} {n : Nat} : Wf1 n (.lst (xs.map D.p)) := fun j m => by
  obtain ⟨x, _, e⟩ := List.mem_map.mp m
  cases e
theorem c_listM : CallR X (.type "list") (rdL (kxOf X ex) (gL1 lstM)) := by
  intro pins s σ H vs us Q I rv h
  obtain ⟨w, x, v, st, rfl, r1, hH, d, st', e, fin⟩ := gL1_inv h
  unfold lstM at e
  split at e
  · rename_i xs q
    cases e
    obtain ⟨b, vs, rfl, s1, a1⟩ := view1_ok hH r1 q
    exact call_list_of pins s σ H _ us Q I rv ⟨b, vs, rfl, .inl s1, fun l nl => fin_mut (κ := kxOf X ex) hH nl (RelL.of a1) wf_pure fin⟩
  · rename_i xs q
    cases e
    have q1' : Dp X.K w.W v (.tuple xs) := view1_ok hH r1 q
    obtain ⟨b, vs, rfl, s1, a1⟩ := Dp.tup_inv q1'
    exact call_list_of pins s σ H _ us Q I rv ⟨b, vs, rfl, .inr (sqT_mono (fun _ _ e => hH.wd e) s1), fun l nl => fin_mut (κ := kxOf X ex) hH nl (RelL.of a1) wf_pure fin⟩
  · cases e
/-- max, min of a list or a tuple of alike data -/
def alikeB (xs : List PyData) : Bool := xs.all fun x => notNone x && xs.all fun y => PySem.W.alike x y
theorem alikeB_ok {xs : List PyData} (h : alikeB xs = true) : PySem.W.AlikeAll xs := by
  unfold alikeB at h
  rw [List.all_eq_true] at h
  refine ⟨fun x hx y hy => ?_, fun x hx => ?_⟩
  · have := h x hx
    rw [Bool.and_eq_true] at this
    exact List.all_eq_true.mp this.2 y hy
  · have := h x hx
    rw [Bool.and_eq_true] at this
    exact notNone_ne this.1
def bestP (mx : Bool) (xs : List PyData) : Option PyData := match xs with
  | [] => none
  | x :: r => if alikeB (x :: r) = true ∧ PyData.depthAll (x :: r) ≤ 60 then some (if mx = true then PySem.W.maxD x r else PySem.W.minD x r) else none
def best1 (mx : Bool) : PyData → Option PyData
  | .list xs => bestP mx xs
  | .tuple xs => bestP mx xs
  | _ => none
theorem pick {K : PySem.W.Frag} {w : Wd} {h h' : Heap} {vs : List V} {us : List Value} {xs : List PyData} {i : Nat} {v : Value} {z : PyData} {bs : List Addr} (rv : Vals vs us) (a : DpAll K w.W vs xs)
    (hr : ∀ (d : PyData) (x : V) (u : Value), Dp K w.W x d → RelV x u → ∃ as, Reads h' u d as) (hv : us[i]? = some v) (r : Reads h' v z bs) : ∃ x, RelV x v ∧ Dp K w.W x z := by
  have hi : i < vs.length := by rw [rv.length]; exact (List.getElem?_eq_some_iff.mp hv).1
  have e1 : vs[i]? = some vs[i] := by simp [hi]
  obtain ⟨u, e2, r2⟩ := rv.get e1
  rw [hv] at e2; cases e2
  have hl : i < xs.length := by rw [← Fw.DpAll.length a]; exact hi
  obtain ⟨y, e3, d3⟩ := DpAll.get a (show xs[i]? = some xs[i] by simp [hl])
  rw [e1] at e3; cases e3
  obtain ⟨as, r3⟩ := hr _ _ _ d3 r2
  have e4 := SeqAt.plain_unique _ _ _ _ _ (Dp.plain d3) r3 r
  rw [e4] at d3
  exact ⟨_, r2, d3⟩
theorem c_best (hc : X.calm = true) (hu : X.A.units + 64 < cLine) (mx : Bool) : CallR X (.builtin (if mx = true then "max" else "min")) (rdL (kxOf X ex) (gL1 (lift1 1 (best1 mx)))) := by
  intro pins s σ H vs us Q I rv h
  obtain ⟨w, x, v, st, rfl, r1, hH, d, st', e, fin⟩ := gL1_inv h
  obtain ⟨y, r, e1, e3, rfl, rfl⟩ := lift1_ok e
  have q1 := view1_ok hH r1 e1
  have hr : ∀ (h' : Heap) (k : ∀ b o, s.heap.get? b = some o → h'.get? b = some o) (d : PyData) (x : V) (u : Value), Dp X.K w.W x d → RelV x u → ∃ as, Reads h' u d as := fun h' k d x u dx ru => by
    obtain ⟨as, r⟩ := Dp.reads I d x u (hH.dp dx) ru
    exact ⟨as, PySem.W.reads_keeps k r⟩
  have core : ∀ (xs : List PyData) (b : Addr) (vs : List V) (its : List Value), bestP mx xs = some r → DpAll X.K w.W vs xs → Vals vs its → (s.heap.IsList b its.toArray ∨ s.heap.IsTuple b its.toArray) → v = .ref b →
      wpAny (model X.prog X.w) X.A (call (.builtin (if mx = true then "max" else "min")) us) (EP X pins σ Q) X.xe s := fun xs b vs its e3 a1 rv2 hl ev => by
    subst ev
    rw [Vals.ref1 rv]
    cases xs with
    | nil => cases e3
    | cons z zs =>
      unfold bestP at e3
      simp only at e3
      split at e3
      · rename_i hc2
        cases e3
        obtain ⟨as, hrA⟩ := Dp.readsAll I (z :: zs) vs its (hH.dpA a1) rv2
        have hrA' : ReadsAll s.heap its.toArray.toList (z :: zs) as := hrA
        have al := alikeB_ok hc2.1
        have un : X.A.units + 1 + PyData.depthAll (z :: zs) < cLine := by have := hc2.2; omega
        have fin2 : ∀ (best : PyData) (i : Nat) (v : Value) (h' : Heap) (tk : Nat) (bs : List Addr), its.toArray[i]? = some v → Reads h' v best bs → (∀ b o, s.heap.get? b = some o → h'.get? b = some o) →
            (∀ w' H' v, w.Le w' → HoldK (kxOf X ex) w' st' H' → RelD X.K w' (.p best) v → Q v H') → EP X pins σ Q v { s with heap := h', toks := tk } := fun best i v h' tk bs hv rb k fin => by
          obtain ⟨x, rx, dx⟩ := pick (h := s.heap) rv2 a1 (hr h' k) (by simpa using hv) rb
          exact ⟨x, H, I.kept (t' := tk) k, rx, fin_here (κ := kxOf X ex) hH dx fin⟩
        cases mx with
        | true =>
          rcases hl with hl | hl
          · exact PySem.W.max_list_data (I.ok.hd hc) hl hrA' al un fun i v h' tk bs hv rb k => fin2 _ i v h' tk bs hv rb k fin
          · exact PySem.W.max_tuple_data (I.ok.hd hc) hl hrA' al un fun i v h' tk bs hv rb k => fin2 _ i v h' tk bs hv rb k fin
        | false =>
          rcases hl with hl | hl
          · exact PySem.W.min_list_data (I.ok.hd hc) hl hrA' al un fun i v h' tk bs hv rb k => fin2 _ i v h' tk bs hv rb k fin
          · exact PySem.W.min_tuple_data (I.ok.hd hc) hl hrA' al un fun i v h' tk bs hv rb k => fin2 _ i v h' tk bs hv rb k fin
      · cases e3
  unfold best1 at e3
  split at e3
  · rename_i xs
    obtain ⟨b, vs, rfl, s1, a1⟩ := q1
    obtain ⟨its, rv2, hl, _⟩ := I.list s1
    exact core xs b vs its e3 a1 rv2 (.inl hl.isList) rfl
  · rename_i xs
    have q1' : Dp X.K w.W v (.tuple xs) := q1
    obtain ⟨b, vs, rfl, s1, a1⟩ := Dp.tup_inv q1'
    obtain ⟨its, rv2, ht, _⟩ := I.tuple (sqT_mono (fun _ _ e => hH.wd e) s1)
    exact core xs b vs its e3 a1 rv2 (.inr ht) rfl
  · cases e3
/-- sorted of a list -/
def sortB (xs : List PyData) : Bool := (xs.all fun x => xs.all fun y => PySem.W.alike x y) && ((xs.all fun x => match x with
  | .tuple (_ :: _) => true
  | _ => false) || xs.all fun x => match x with
  | .none => false
  | .tuple _ => false
  | _ => true)
theorem sortB_ok {xs : List PyData} (h : sortB xs = true) : PySem.W.AllAlike (xs.map id) ∧ PySem.W.Sortable (xs.map id) := by
  unfold sortB at h
  rw [Bool.and_eq_true, Bool.or_eq_true, List.map_id] at *
  refine ⟨fun x hx y hy => List.all_eq_true.mp (List.all_eq_true.mp h.1 x hx) y hy, ?_⟩
  rcases h.2 with h2 | h2
  · refine .inl fun d hd => ?_
    have := List.all_eq_true.mp h2 d hd
    cases d with
    | tuple r =>
      cases r with
      | nil => cases this
      | cons a b => exact ⟨a, b, rfl⟩
    | _ => cases this
  · refine .inr fun d hd => ?_
    have := List.all_eq_true.mp h2 d hd
    refine ⟨?_, ?_⟩
    · rintro rfl; cases this
    · rintro r rfl; cases this
def sortL (rev : Bool) (xs : List PyData) : List PyData := xs.mergeSort (PySem.W.dataLe rev id)
def sortP (rev : Bool) : PyData → Option PyData
  | .list xs => if sortB xs = true ∧ PyData.depthAll xs ≤ 60 ∧ xs.length ≤ 1000000 then some (.list (sortL rev xs)) else none
  | _ => none
theorem depth_mem : ∀ {xs : List PyData} {x : PyData}, x ∈ xs → x.depth ≤ PyData.depthAll xs
  | y :: ys, x, h => by
    rw [PyData.depthAll]
    rcases List.mem_cons.mp h with rfl | h
    · exact Nat.le_max_left _ _
    · exact Nat.le_trans (depth_mem h) (Nat.le_max_right _ _)
theorem each_of {K : PySem.W.Frag} {W : Hp} : ∀ {ds : List PyData} {vs : List V} {us : List Value}, DpAll K W vs ds → Vals vs us → PySem.W.EachIs (fun u d => ∃ x, RelV x u ∧ Dp K W x d) us ds
  | [], _, _, a, r => by cases a; cases r; exact .nil
  | d :: ds, _, _, a, r => by
    cases a with
    | cons a1 a2 =>
      cases r with
      | cons r1 r2 => exact .cons ⟨_, r1, a1⟩ (each_of a2 r2)
theorem each_back {K : PySem.W.Frag} {W : Hp} : ∀ {us : List Value} {ds : List PyData}, PySem.W.EachIs (fun u d => ∃ x, RelV x u ∧ Dp K W x d) us ds → ∃ vs, Vals vs us ∧ DpAll K W vs ds
  | _, _, .nil => ⟨[], .nil, .nil⟩
  | _, _, .cons ⟨x, r, d⟩ t => by
    obtain ⟨vs, r2, d2⟩ := each_back t
    exact ⟨x :: vs, .cons r r2, .cons d d2⟩
theorem sort_core {pins : List (Addr × Obj)} {s : Shared} {σ : L2.St} {H : Hp} {Q : VK} {w : Wd} {st : Sto} {rev : Bool} {xs : List PyData} {b : Addr} {vs : List V} (I : Inv X pins σ H s) (hu : X.A.units + 64 < cLine) (hH : HoldK (kxOf X ex) w st H)
    (hb : sortB xs = true ∧ PyData.depthAll xs ≤ 60 ∧ xs.length ≤ 1000000) (s1 : SqL X.K H b vs) (a1 : DpAll X.K w.W vs xs) (fin : ∀ w' H' v, w.Le w' → HoldK (kxOf X ex) w' st H' → RelD X.K w' (.p (.list (sortL rev xs))) v → Q v H')
    {E : Value → Shared → Prop} {f : Sem Value} (hf : ∀ {its : List Value} (hl : s.heap.IsList b its.toArray) (e : PySem.W.EachIs (fun u d => ∃ x, RelV x u ∧ Dp X.K w.W x d) its xs) (er : PySem.W.EachIs (fun v b => ∃ as, Reads s.heap v (id b) as) its xs)
      (h : ∀ out, out.length = xs.length → PySem.W.EachIs (fun u d => ∃ x, RelV x u ∧ Dp X.K w.W x d) out (xs.mergeSort (PySem.W.dataLe rev id)) → (EP X pins σ Q) (.ref (s.heap.objs.size + 1)) { s with heap := sortedAll s.heap its (List.toArray out) }),
      wpAny (model X.prog X.w) X.A f (EP X pins σ Q) E s) : wpAny (model X.prog X.w) X.A f (EP X pins σ Q) E s := by
  obtain ⟨its, rv2, hl, _⟩ := I.list s1
  have e1 := each_of a1 rv2
  refine hf hl.isList e1 (e1.mono fun u d ⟨x, rx, dx⟩ => Dp.reads I d x u (hH.dp dx) rx) fun out hlen hout => ?_
  obtain ⟨os, ro, ao⟩ := each_back hout
  obtain ⟨ep, he'⟩ := PyProof.Rows.sortedAll_at s.heap its out.toArray
  have hos : os.length ≤ sizeLine := by
    rw [ro.length, hlen]
    exact lim_line hb.2.2
  have hn : H (s.heap.objs.size + 1) = none := I.hok.fresh (Nat.le_succ _)
  exact ⟨.ref _, upd H (s.heap.objs.size + 1) (.lst os), I.laid (t' := s.toks) (fun _ _ => PyProof.Rows.sortedAll_old) (Nat.le_succ _) ⟨hos, out, ep, ro, by simpa using he'⟩, rfl, fin_lst (κ := kxOf X ex) hH hn ao fin⟩
theorem c_sorted (hu : X.A.units + 64 < cLine) : CallR X (.builtin "sorted") (rdL (kxOf X ex) (gL1 (lift1 1 (sortP false)))) := by
  intro pins s σ H vs us Q I rv h
  obtain ⟨w, x, v, st, rfl, r1, hH, d, st', e, fin⟩ := gL1_inv h
  obtain ⟨y, r, e1, e3, rfl, rfl⟩ := lift1_ok e
  have q1 := view1_ok hH r1 e1
  unfold sortP at e3
  split at e3
  · rename_i xs
    split at e3
    · rename_i hb
      cases e3
      obtain ⟨b, vs, rfl, s1, a1⟩ := q1
      rw [Vals.ref1 rv]
      obtain ⟨h1, h2⟩ := sortB_ok hb.1
      exact sort_core I hu hH hb s1 a1 fin fun hl e er h => PySem.W.sorted_data hl e er h1 h2 (lim_line hb.2.2) (fun b hbm => by have := depth_mem hbm; have := hb.2.1; show X.A.units + 2 + b.depth < cLine; omega) h
    · cases e3
  · cases e3
end
end Fw

set_option maxRecDepth 100000
set_option maxHeartbeats 4000000
namespace Fw
open PySem PySem.Spec PyProof.Rows L2

/-! ## isinstance -/
inductive Cl where
  | int | bool | str | tup | lst
def Cl.nm : Cl → String
  | .int => "int"
  | .bool => "bool"
  | .str => "str"
  | .tup => "tuple"
  | .lst => "list"
def isC (c : Cl) (x : PyData) : Option Bool := match c, x with
  | .int, .int _ => some true
  | .int, .bool _ => some true
  | .bool, .bool _ => some true
  | .str, .str _ => some true
  | .tup, .tuple _ => some true
  | .lst, .list _ => some true
  | _, .dict _ => none
  | _, _ => some false
def tyN : PyData → Option String
  | .none => some "NoneType"
  | .bool _ => some "bool"
  | .int _ => some "int"
  | .str _ => some "str"
  | .tuple _ => some "tuple"
  | .list _ => some "list"
  | .dict _ => none
theorem kit_all (c : Cl) (x : PyData) (t : String) (h : tyN x = some t) : kitB t c.nm = isC c x := by
  cases x with
  | dict _ => cases h
  | none => cases h; cases c <;> (show kitB _ _ = some _; decide +kernel)
  | bool b => cases h; cases c <;> (show kitB _ _ = some _; decide +kernel)
  | int b => cases h; cases c <;> (show kitB _ _ = some _; decide +kernel)
  | str b => cases h; cases c <;> (show kitB _ _ = some _; decide +kernel)
  | tuple b => cases h; cases c <;> (show kitB _ _ = some _; decide +kernel)
  | list b => cases h; cases c <;> (show kitB _ _ = some _; decide +kernel)
theorem tyX_of {K : PySem.W.Frag} {H : Hp} {v : V} {x : PyData} (r : Dp K H v x) : ∃ t, tyN x = some t ∧ TyX K H v (.type t) := by
  cases r with
  | non => exact ⟨_, rfl, .base .non⟩
  | bl b => exact ⟨_, rfl, .base (.bl b)⟩
  | int b => exact ⟨_, rfl, .base (.int b)⟩
  | str b => exact ⟨_, rfl, .base (.str b)⟩
  | lst s _ =>
    refine ⟨_, rfl, ?_⟩
    rcases s with (s | ⟨o, s⟩) | ⟨o, its, n, hk, hc, _⟩
    · exact .base (.lst s)
    · exact .base (.frz s)
    · exact .kList hk hc
  | tup s _ =>
    refine ⟨_, rfl, ?_⟩
    rcases s with (s | ⟨o, s⟩) | ⟨o, its, n, hk, hc, _⟩
    · exact .base (.tup s)
    · exact .fTuple s
    · exact .kTuple hk hc
section
variable {X : Cx} {κ : Kx} {Wx : WX} {σ : L2.St} {H : Hp} {ma mb : Env' → M D} {ms : Env' → M (List D)} {a e : Expr} {es : List Expr} {pos p : Pos} {ex : Nat → Addr}
def isiP (c : Cl) (x : PyData) : Option PyData := (isC c x).map .bool
theorem r_isi {c : Cl} {y : Str} {p2 : Pos} (hg : Gl X "isinstance") (hm : X.mg "isinstance" = none) (hg2 : Gl X y) (hm2 : X.mg y = none) (hv2 : bootBuiltins y = some (.type c.nm)) (hn2 : y ≠ "__name__") (hd2 : (y == ("__debug__" : Str)) = false) (ha : PE X a (rdE (kxOf X ex) ma Wx))
    (he : starEach [a, .Name y p2] X.env = (false, eval a X.env) :: starEach [.Name y p2] X.env) : PE X (.Call (.Name "isinstance" p) [a, .Name y p2] [] pos) (rdE (kxOf X ex) (m1 ma (lift1 3 (isiP c))) Wx) := by
  have h1 : PE X (.Name y p2) (tC (.ty c.nm)) := pe_bltn hg2 hm2 hv2 rfl hn2 hd2
  refine (pe_callB call_isi hg hm PyProof.Rows.boot_isinstance (pa_cons ha (pa_cons h1 pa_nil) he) (by decide) (by decide) he (by rfl)).wk fun σ H Q h => ?_
  obtain ⟨w0, env0, st0, a0, b0, c0⟩ := rd_m1 h
  refine ⟨w0, env0, st0, a0, b0, c0.imp fun d st' w' H' le hh q v rv => ?_⟩
  obtain ⟨w1, x, st1, r1, hH1, d', st2, e, fin⟩ := q v rv
  obtain ⟨y, r, e1, e3, rfl, rfl⟩ := lift1_ok e
  have q1 := view_ok hH1 3 r1 e1
  unfold isiP at e3
  cases q2 : isC c y with
  | none => rw [q2] at e3; cases e3
  | some k =>
    rw [q2] at e3
    cases e3
    obtain ⟨t, ht, tx⟩ := tyX_of q1
    exact ⟨v, .ty c.nm, .type t, .type c.nm, k, rfl, .ty _, tx, kit_ty (by rw [kit_all c y t ht, q2]), fin_here (κ := kxOf X ex) hH1 (.bl k) fin⟩
theorem r_callB {id : String} {x : Str} {g : FnL} (hc : CallR X (.builtin id) (rdL κ g)) (hg : Gl X x) (hm : X.mg x = none) (hv : bootBuiltins x = some (.builtin id)) (ha : PA X (e :: es) (rdA κ ms Wx)) (hn : x ≠ "__name__") (hdb : (x == ("__debug__" : Str)) = false)
    (he : starEach (e :: es) X.env = (false, eval e X.env) :: starEach es X.env) (hpl : (backTo pos (starEach es X.env)).any (·.1) = false) : PE X (.Call (.Name x p) (e :: es) [] pos) (rdE κ (mL ms g) Wx) :=
  (pe_callB hc hg hm hv ha hn hdb he hpl).wk fun σ H Q h => rd_mL h
theorem r_callTy {T : String} {x : Str} {g : FnL} (hc : CallR X (.type T) (rdL κ g)) (hg : Gl X x) (hm : X.mg x = none) (hv : bootBuiltins x = some (.type T)) (ha : PA X (e :: es) (rdA κ ms Wx)) (hn : x ≠ "__name__") (hdb : (x == ("__debug__" : Str)) = false)
    (he : starEach (e :: es) X.env = (false, eval e X.env) :: starEach es X.env) (hpl : (backTo pos (starEach es X.env)).any (·.1) = false) : PE X (.Call (.Name x p) (e :: es) [] pos) (rdE κ (mL ms g) Wx) :=
  (pe_callTy hc hg hm hv ha hn hdb he hpl).wk fun σ H Q h => rd_mL h

/-! ## calls of the text's own defs -/
/-- the promise of a computation -/
def spF (κ : Kx) (np : Nat) (φ : List D → M D) : Sp := fun vs H Q E => vs.length = np ∧ ∃ w ds st, RelL κ.K w ds vs ∧ HoldK κ w st H ∧ match φ ds st with
  | .ok d st' => ∀ w' H' v, w.Le w' → HoldK κ w' st' H' → RelD κ.K w' d v → Q v H'
  | .exc c st' => ∀ w' H', w.Le w' → HoldK κ w' st' H' → E (.ref (κ.ex c)) none H'
  | .bad => False
/-- how a def stands: its object, its arguments' binding -/
structure FnAt (X : Cx) (ex : Nat → Addr) (k : Nat) (x : Str) (ps : List Str) (φ : List D → M D) : Prop where
  at_ : ∃ (f : Addr) (fd : FuncData), X.mg x = some (.ref f) ∧ PySem.W.keepIn X.K (.ref f) = true ∧ Binds X.K fd ps [] ∧ FnOk X.prog X.w X.K X.mg X.base (L2.CX X.prog X.w) k f fd ps (spF (kxOf X ex) ps.length φ)
def mCall (ms : Env' → M (List D)) (φ : List D → M D) : Env' → M D := fun env => bnd (ms env) φ
theorem spF_of {np : Nat} {φ : List D → M D} {w : Wd} {ds : List D} {vs : List V} {st : Sto} {H : Hp} {Q : VK} (hl : ds.length = np) (rl : RelL κ.K w ds vs) (hH : HoldK κ w st H) (hp : PostG κ Wx σ w (φ ds st) (CV κ Q)) : spF κ np φ vs H Q (WE Wx σ) := by
  refine ⟨by rw [← hl, rl.length], w, ds, st, rl, hH, ?_⟩
  cases q : φ ds st with
  | ok d st' =>
    rw [q] at hp
    exact fun w' H' v le hh r => hp w' H' le hh v r
  | exc c st' =>
    rw [q] at hp
    exact fun w' H' le hh => hp w' H' le hh
  | bad => rw [q] at hp; exact hp
/-- the arguments have the right number -/
def sized (n : Nat) (φ : List D → M D) : List D → M D := fun ds => if ds.length = n then φ ds else bad
theorem r_call {k : Nat} {x : Str} {ps : List Str} {φ : List D → M D} (F : FnAt X ex k x ps φ) (tk : Takes X Wx) (hr : Room k X.A) (hg : Gl X x) (ha : PA X (e :: es) (rdA (kxOf X ex) ms Wx)) (hdb : (x == ("__debug__" : Str)) = false)
    (he : starEach (e :: es) X.env = (false, eval e X.env) :: starEach es X.env) (hpl : (backTo pos (starEach es X.env)).any (·.1) = false) : PE X (.Call (.Name x p) (e :: es) [] pos) (rdE (kxOf X ex) (mCall ms (sized ps.length φ)) Wx) := by
  obtain ⟨f, fd, hm, hk, hb, F⟩ := F.at_
  refine (pe_callS F hr hg hm hk hb (fun σ => passAt tk σ) ha hdb he hpl).wk fun σ H Q h => ?_
  obtain ⟨w, env, st, hE, hH, hp⟩ := h
  refine ⟨w, env, st, hE, hH, (PostG.bnd hp).imp fun ds st1 w1 H1 le hH1 hp1 vs rl => ?_⟩
  unfold sized at hp1
  split at hp1
  · rename_i hl
    exact spF_of (κ := kxOf X ex) hl rl hH1 hp1
  · exact hp1.elim
theorem r_call0 {k : Nat} {x : Str} {φ : List D → M D} (F : FnAt X ex k x [] φ) (tk : Takes X Wx) (hr : Room k X.A) (hg : Gl X x) (hdb : (x == ("__debug__" : Str)) = false) : PE X (.Call (.Name x p) [] [] pos) (rdE (kxOf X ex) (mCall aNil (sized 0 φ)) Wx) := by
  obtain ⟨f, fd, hm, hk, hb, F⟩ := F.at_
  refine ⟨fun pins s σ H Q I h => ?_⟩
  obtain ⟨w, env, st, hE, hH, hp⟩ := h
  have hp1 := PostG.ret (C := fun b st1 w1 _ => PostG (kxOf X ex) Wx σ w1 (sized 0 φ b st1) (CV (kxOf X ex) Q)) hH (PostG.bnd hp)
  refine wpAny_Call_Name_kw (ld_glob I hg hm ?_ hdb)
  exact PySem.W.callWith_K0 I.kIn hk (run_fnS (E := WE Wx) (us := []) F hr hb (passAt tk σ) I .nil (spF_of (κ := kxOf X ex) (ds := []) rfl .nil hH hp1))
end

/-! ## what is walked -/
inductive Src where
  | fix (xs : List D)
  | loc (n : Nat)
def cont (s : Src) (st : Sto) : Option (List D) := match s with
  | .fix xs => some xs
  | .loc n => match st[n]? with
    | some (.lst ds) => some ds
    | _ => none
structure Serves (κ : Kx) (w : Wd) (S : Hp) (src : Src) (J : It) : Prop where
  go : ∀ (i : Nat) (w1 : Wd) (st : Sto) (H : Hp) (ds : List D), w.Lc w1 → (∀ b o, S b = some o → w1.T b = some o) → HoldK κ w1 st H → cont src st = some ds → i < ds.length → J.go i H
  stop : ∀ (i : Nat) (w1 : Wd) (st : Sto) (H : Hp) (ds : List D), w.Lc w1 → (∀ b o, S b = some o → w1.T b = some o) → HoldK κ w1 st H → cont src st = some ds → ds.length ≤ i → J.stop i H
  yld : ∀ (i : Nat) (w1 : Wd) (st : Sto) (H H' : Hp) (ds : List D) (d : D) (x : V), w.Lc w1 → (∀ b o, S b = some o → w1.T b = some o) → HoldK κ w1 st H → cont src st = some ds → ds[i]? = some d → J.yld i H x H' → ∃ w2, w1.Le w2 ∧ HoldK κ w2 st H' ∧ RelD κ.K w2 d x
def rdI (κ : Kx) (m : Env' → M Src) (Wx : WX) : TI := fun σ H R => ∃ w env st, RelE κ w env σ ∧ HoldK κ w st H ∧ PostG κ Wx σ w (m env st) fun src st' w' H' => ∀ J, Serves κ w' (fun _ => none) src J → R J H'
section
variable {κ : Kx} {w : Wd} {st : Sto} {H : Hp}
theorem sqL_uniq {X : Cx} {pins : List (Addr × Obj)} {σ : L2.St} {s : Shared} {H : Hp} {a : Addr} {xs ys : List V} (I : Inv X pins σ H s) (h : SqL X.K H a xs) (h' : SqL X.K H a ys) : xs = ys := I.list_inj h h'
theorem get_map_p {xs : List PyData} {i : Nat} {d : D} (h : (xs.map D.p)[i]? = some d) : ∃ x, xs[i]? = some x ∧ d = .p x := by
  rw [List.getElem?_map] at h
  cases q : xs[i]? with
  | none => rw [q] at h; cases h
  | some x => rw [q] at h; cases h; exact ⟨x, rfl, rfl⟩
theorem serves_list {S : Hp} {a : Addr} {vs : List V} {xs : List PyData} (s : SqL κ.K w.W a vs) (r : DpAll κ.K w.W vs xs) : Serves κ w S (.fix (xs.map D.p)) (Itl κ.K a) where
  go := fun i w1 st H ds le _ hH hc hi => by
    cases hc
    have s1 := sqL_mono (fun _ _ e => hH.wd (le.W _ _ e)) s
    have hi' : i < vs.length := by rw [Fw.DpAll.length r]; simpa using hi
    exact ⟨vs, vs[i], s1, by simp [hi']⟩
  stop := fun i w1 st H ds le _ hH hc hi => by
    cases hc
    exact ⟨vs, sqL_mono (fun _ _ e => hH.wd (le.W _ _ e)) s, by rw [Fw.DpAll.length r]; simpa using hi⟩
  yld := fun i w1 st H H' ds d x le _ hH hc hd hy => by
    cases hc
    obtain ⟨rfl, f⟩ := hy
    obtain ⟨y, h1, rfl⟩ := get_map_p hd
    obtain ⟨v, h2, h3⟩ := DpAll.get r h1
    have := f vs (sqL_mono (fun _ _ e => hH.wd (le.W _ _ e)) s)
    rw [h2] at this; cases this
    exact ⟨w1, Wd.Le.refl _, hH, Dp.mono le.W _ _ h3⟩
theorem serves_tup {S : Hp} {a : Addr} {vs : List V} {xs : List PyData} (s : SqT κ.K w.W a vs) (r : DpAll κ.K w.W vs xs) : Serves κ w S (.fix (xs.map D.p)) (Itt κ.K a) where
  go := fun i w1 st H ds le _ hH hc hi => by
    cases hc
    have s1 := sqT_mono (fun _ _ e => hH.wd (le.W _ _ e)) s
    have hi' : i < vs.length := by rw [Fw.DpAll.length r]; simpa using hi
    exact ⟨vs, vs[i], s1, by simp [hi']⟩
  stop := fun i w1 st H ds le _ hH hc hi => by
    cases hc
    exact ⟨vs, sqT_mono (fun _ _ e => hH.wd (le.W _ _ e)) s, by rw [Fw.DpAll.length r]; simpa using hi⟩
  yld := fun i w1 st H H' ds d x le _ hH hc hd hy => by
    cases hc
    obtain ⟨rfl, f⟩ := hy
    obtain ⟨y, h1, rfl⟩ := get_map_p hd
    obtain ⟨v, h2, h3⟩ := DpAll.get r h1
    have := f vs (sqT_mono (fun _ _ e => hH.wd (le.W _ _ e)) s)
    rw [h2] at this; cases this
    exact ⟨w1, Wd.Le.refl _, hH, Dp.mono le.W _ _ h3⟩
theorem serves_loc {S : Hp} {n : Nat} {a : Addr} (ha : w.L[n]? = some a) : Serves κ w S (.loc n) (Itl κ.K a) where
  go := fun i w1 st H ds le _ hH hc hi => by
    unfold cont at hc
    simp only at hc
    split at hc
    · rename_i ds' q
      cases hc
      obtain ⟨o, ho, vs, rfl, rl⟩ := hH.obs n a _ (le.get ha) q
      have hi' : i < vs.length := by rw [← rl.length]; exact hi
      exact ⟨vs, vs[i], SqL.of ho, by simp [hi']⟩
    · cases hc
  stop := fun i w1 st H ds le _ hH hc hi => by
    unfold cont at hc
    simp only at hc
    split at hc
    · rename_i ds' q
      cases hc
      obtain ⟨o, ho, vs, rfl, rl⟩ := hH.obs n a _ (le.get ha) q
      exact ⟨vs, SqL.of ho, by rw [← rl.length]; exact hi⟩
    · cases hc
  yld := fun i w1 st H H' ds d x le _ hH hc hd hy => by
    unfold cont at hc
    simp only at hc
    split at hc
    · rename_i ds' q
      cases hc
      obtain ⟨rfl, f⟩ := hy
      obtain ⟨o, ho, vs, rfl, rl⟩ := hH.obs n a _ (le.get ha) q
      obtain ⟨v, h2, h3⟩ := rl.get hd
      have := f vs (SqL.of ho)
      rw [h2] at this; cases this
      exact ⟨w1, Wd.Le.refl _, hH, h3⟩
    · cases hc
theorem serves_range {S : Hp} {lo : Int} {n : Nat} : Serves κ w S (.fix ((List.range n).map fun (i : Nat) => D.p (.int (lo + (i : Nat))))) (Itr lo n) where
  go := fun i w1 st H ds le _ hH hc hi => by
    cases hc
    show i < n
    simpa using hi
  stop := fun i w1 st H ds le _ hH hc hi => by
    cases hc
    show n ≤ i
    simpa using hi
  yld := fun i w1 st H H' ds d x le _ hH hc hd hy => by
    cases hc
    obtain ⟨rfl, rfl⟩ := hy
    rw [List.getElem?_map] at hd
    cases q : (List.range n)[i]? with
    | none => rw [q] at hd; cases hd
    | some j =>
      rw [q] at hd
      cases hd
      have hj := List.getElem?_eq_some_iff.mp q
      have : j = i := by simpa using hj.2.symm
      subst this
      exact ⟨w1, Wd.Le.refl _, hH, .int _⟩
end
section
variable {X : Cx} {κ : Kx} {Wx : WX} {σ : L2.St} {H : Hp} {ma mb : Env' → M D} {ms : Env' → M (List D)} {a e tg : Expr} {es : List Expr} {pos p : Pos} {ex : Nat → Addr}
/-- a list, a tuple, a mutable list -/
def srcOf (d : D) : Option Src := match d with
  | .p (.list xs) => some (.fix (xs.map D.p))
  | .p (.tuple xs) => some (.fix (xs.map D.p))
  | .loc n => some (.loc n)
  | _ => none
def iSeq (m : Env' → M D) : Env' → M Src := fun env => bnd (m env) fun d st => match srcOf d with
  | some (.loc n) => (match cont (.loc n) st with
    | some _ => .ok (.loc n) st
    | none => .bad)
  | some s => .ok s st
  | none => .bad
theorem r_iseq (ha : PE X a (rdE (kxOf X ex) ma Wx)) : PI X tg a (rdI (kxOf X ex) (iSeq ma) Wx) := by
  refine ⟨fun pins s σ H R I h => ?_⟩
  obtain ⟨w, env, st, hE, hH, hp⟩ := h
  have hs := rd_one (Wx := Wx) (ma := ma) hE hH hp
  refine thn (ha.run pins s σ H _ I hs) fun v s1 ⟨x, H1, I1, r1, q1⟩ => ?_
  obtain ⟨w1, d, st1, le, rd, hE1, hH1, hp1⟩ := q1
  have goL : ∀ (b : Addr) (vs : List V) (src : Src), x = .ref b → SqL X.K H1 b vs → Serves (kxOf X ex) w1 (fun _ => none) src (Itl X.K b) → (∀ J, Serves (kxOf X ex) w1 (fun _ => none) src J → R J H1) → wpAny (model X.prog X.w) X.A (pyIter v) (PIE X pins σ tg R) X.xe s1 := fun b vs src ex' hq sv hR => by
    subst ex'
    cases r1
    obtain ⟨its, rv, p, hz⟩ := I1.list hq
    refine wpAny_pyIter_list p.isList ?_
    refine ⟨s1.heap.objs.size, [s1.heap.objs.size], _, _, H1, rfl, I1.kept (t' := s1.toks) fun b o e => Heap.get?_push_of_some _ e, turn_list b _, ⟨_, Heap.get?_push_size _ rfl, rfl, rfl⟩, fun b hb => ?_, hR _ sv⟩
    have e : b = s1.heap.objs.size := by simpa using hb
    subst e
    exact I1.fpOk (Nat.le_refl _) (I1.hok.fresh (Nat.le_refl _))
  have goT : ∀ (b : Addr) (vs : List V) (src : Src), x = .ref b → SqT X.K H1 b vs → Serves (kxOf X ex) w1 (fun _ => none) src (Itt X.K b) → (∀ J, Serves (kxOf X ex) w1 (fun _ => none) src J → R J H1) → wpAny (model X.prog X.w) X.A (pyIter v) (PIE X pins σ tg R) X.xe s1 := fun b vs src ex' hq sv hR => by
    subst ex'
    cases r1
    obtain ⟨its, rv, p, hz⟩ := I1.tuple hq
    refine wpAny_pyIter_tuple (show s1.heap.IsTuple b its.toArray from p) ?_
    refine ⟨s1.heap.objs.size, [s1.heap.objs.size], _, _, H1, rfl, I1.kept (t' := s1.toks) fun b o e => Heap.get?_push_of_some _ e, turn_tuple b _, ⟨_, Heap.get?_push_size _ rfl, rfl, rfl⟩, fun b hb => ?_, hR _ sv⟩
    have e : b = s1.heap.objs.size := by simpa using hb
    subst e
    exact I1.fpOk (Nat.le_refl _) (I1.hok.fresh (Nat.le_refl _))
  cases d with
  | p y =>
    cases y with
    | list xs =>
      have rd' : Dp X.K w1.W x (.list xs) := rd
      obtain ⟨b, vs, e1, s1', a1⟩ := Dp.lst_inv rd'
      exact goL b vs _ e1 (sqL_mono (fun _ _ e => hH1.wd e) s1') (serves_list (κ := kxOf X ex) s1' a1) (hp1 w1 _ (Wd.Le.refl _) hH1)
    | tuple xs =>
      have rd' : Dp X.K w1.W x (.tuple xs) := rd
      obtain ⟨b, vs, e1, s1', a1⟩ := Dp.tup_inv rd'
      exact goT b vs _ e1 (sqT_mono (fun _ _ e => hH1.wd e) s1') (serves_tup (κ := kxOf X ex) s1' a1) (hp1 w1 _ (Wd.Le.refl _) hH1)
    | _ => exact hp1.elim
  | loc n =>
    obtain ⟨b, e1, hb⟩ := rd
    have hp2 : PostG (kxOf X ex) Wx σ w1 (match cont (.loc n) st1 with
      | some _ => Fw.R.ok (Src.loc n) st1
      | none => Fw.R.bad) (fun src st' w' H' => ∀ J, Serves (kxOf X ex) w' (fun _ => none) src J → R J H') := hp1
    cases q : cont (.loc n) st1 with
    | none => rw [q] at hp2; exact hp2.elim
    | some ds =>
      rw [q] at hp2
      unfold cont at q
      simp only at q
      split at q
      · rename_i ds' q'
        obtain ⟨o, ho, vs, rfl, rl⟩ := hH1.obs n b _ hb q'
        exact goL b vs _ e1 (SqL.of ho) (serves_loc (κ := kxOf X ex) hb) (hp2 w1 _ (Wd.Le.refl _) hH1)
      · cases q
/-- ranges -/
def rngL (lo : Int) (n : Nat) : List D := (List.range n).map fun (i : Nat) => D.p (.int (lo + (i : Nat)))
def smallI (i : Int) : Bool := decide (-(2 ^ 62) ≤ i) && decide (i < 2 ^ 62)
def rng1 (ds : List D) : Option Src := match ds with
  | [.p (.int j)] => if smallI j = true then some (.fix (rngL 0 j.toNat)) else none
  | _ => none
def rng2 (ds : List D) : Option Src := match ds with
  | [.p (.int i), .p (.int j)] => if smallI i = true ∧ smallI j = true then some (.fix (rngL i (j - i).toNat)) else none
  | _ => none
def iArgs (ms : Env' → M (List D)) (f : List D → Option Src) : Env' → M Src := fun env => bnd (ms env) fun ds => opt (f ds)
theorem smallI_ok {i : Int} (h : smallI i = true) : -(2 ^ 62) ≤ i ∧ i < 2 ^ 62 := by
  unfold smallI at h
  rw [Bool.and_eq_true] at h
  exact ⟨of_decide_eq_true h.1, of_decide_eq_true h.2⟩
theorem r_rng1 (hg : Gl X "range") (hm : X.mg "range" = none) (ha : PA X [a] (rdA (kxOf X ex) ms Wx)) (hs : starEach [a] X.env = [(false, eval a X.env)]) : PI X tg (.Call (.Name "range" p) [a] [] pos) (rdI (kxOf X ex) (iArgs ms rng1) Wx) := (pi_range1 hg hm ha hs).wk fun σ H Q h => by
  obtain ⟨w, env, st, hE, hH, hp⟩ := h
  refine ⟨w, env, st, hE, hH, (PostG.bnd hp).imp fun ds st1 w1 H1 le hH1 hp1 vs rl => ?_⟩
  unfold opt rng1 at hp1
  split at hp1
  · rename_i sr q
    split at q
    · rename_i j
      split at q
      · rename_i hj
        cases q
        cases rl with
        | cons r1 r2 =>
          cases r2
          have r1' : Dp X.K w1.W _ (.int j) := r1
          have := Dp.int_inv r1'
          subst this
          obtain ⟨h1, h2⟩ := smallI_ok hj
          exact ⟨j, rfl, h1, h2, hp1 w1 _ (Wd.Le.refl _) hH1 _ serves_range⟩
      · cases q
    · cases q
  · exact hp1.elim
theorem r_rng2 {b : Expr} (hg : Gl X "range") (hm : X.mg "range" = none) (ha : PA X [a, b] (rdA (kxOf X ex) ms Wx)) (hs : starEach [a, b] X.env = [(false, eval a X.env), (false, eval b X.env)]) (hs2 : starEach [b] X.env = [(false, eval b X.env)]) : PI X tg (.Call (.Name "range" p) [a, b] [] pos) (rdI (kxOf X ex) (iArgs ms rng2) Wx) := (pi_range2 hg hm ha hs hs2).wk fun σ H Q h => by
  obtain ⟨w, env, st, hE, hH, hp⟩ := h
  refine ⟨w, env, st, hE, hH, (PostG.bnd hp).imp fun ds st1 w1 H1 le hH1 hp1 vs rl => ?_⟩
  unfold opt rng2 at hp1
  split at hp1
  · rename_i sr q
    split at q
    · rename_i i j
      split at q
      · rename_i hj
        cases q
        cases rl with
        | cons r1 r2 =>
          cases r2 with
          | cons r2 r3 =>
            cases r3
            have r1' : Dp X.K w1.W _ (.int i) := r1
            have r2' : Dp X.K w1.W _ (.int j) := r2
            have z1 := Dp.int_inv r1'
            have z2 := Dp.int_inv r2'
            subst z1 z2
            obtain ⟨h1, h2⟩ := smallI_ok hj.1
            obtain ⟨h3, h4⟩ := smallI_ok hj.2
            exact ⟨i, j, rfl, ⟨h1, h2, h3, h4⟩, hp1 w1 _ (Wd.Le.refl _) hH1 _ serves_range⟩
      · cases q
    · cases q
  · exact hp1.elim
/-- zip of two lists, of two tuples -/
def pairs (xs ys : List PyData) : List D := (xs.zip ys).map fun q => .p (.tuple [q.1, q.2])
def zip2 (ds : List D) : Option Src := match ds with
  | [.p (.list xs), .p (.list ys)] => some (.fix (pairs xs ys))
  | [.p (.tuple xs), .p (.tuple ys)] => some (.fix (pairs xs ys))
  | _ => none
theorem pairs_len (xs ys : List PyData) : (pairs xs ys).length = min xs.length ys.length := by simp [pairs]
theorem pairs_get {xs ys : List PyData} {i : Nat} {d : D} (h : (pairs xs ys)[i]? = some d) : ∃ x y, xs[i]? = some x ∧ ys[i]? = some y ∧ d = .p (.tuple [x, y]) := by
  unfold pairs at h
  rw [List.getElem?_map] at h
  cases q : (xs.zip ys)[i]? with
  | none => rw [q] at h; cases h
  | some z =>
    rw [q] at h
    cases h
    obtain ⟨x, y⟩ := z
    rw [List.getElem?_zip_eq_some] at q
    exact ⟨x, y, q.1, q.2, rfl⟩
theorem pair_new {κ : Kx} {w : Wd} {st : Sto} {H : Hp} {T : Addr} {v u : V} {x y : PyData} (hH : HoldK κ w st H) (nT : H T = none) (r1 : Dp κ.K w.W v x) (r2 : Dp κ.K w.W u y) : ∃ w2, w.Le w2 ∧ HoldK κ w2 st (upd H T (.tup [v, u])) ∧ RelD κ.K w2 (.p (.tuple [x, y])) (.ref T) := by
  have n2 : w.W T = none := hH.free nT
  have le := Wd.le_imm (w := w) (p := T) (o := .tup [v, u]) n2
  exact ⟨_, le, Hold.imm_new hH nT trivial, .tup (SqT.of upd_same) (Dp.monoA (fun a o e => le.W a o e) _ _ (.cons r1 (.cons r2 .nil)))⟩
theorem serves_zipL {S : Hp} {κ : Kx} {w : Wd} {a b : Addr} {vs us : List V} {xs ys : List PyData} (s : SqL κ.K w.W a vs) (r : DpAll κ.K w.W vs xs) (s' : SqL κ.K w.W b us) (r' : DpAll κ.K w.W us ys) : Serves κ w S (.fix (pairs xs ys)) (Itz κ.K a b) where
  go := fun i w1 st H ds le _ hH hc hi => by
    cases hc
    rw [pairs_len] at hi
    have h1 : i < vs.length := by rw [Fw.DpAll.length r]; omega
    have h2 : i < us.length := by rw [Fw.DpAll.length r']; omega
    exact ⟨vs, us, vs[i], us[i], sqL_mono (fun _ _ e => hH.wd (le.W _ _ e)) s, sqL_mono (fun _ _ e => hH.wd (le.W _ _ e)) s', by simp [h1], by simp [h2]⟩
  stop := fun i w1 st H ds le _ hH hc hi => by
    cases hc
    rw [pairs_len] at hi
    exact ⟨vs, us, sqL_mono (fun _ _ e => hH.wd (le.W _ _ e)) s, sqL_mono (fun _ _ e => hH.wd (le.W _ _ e)) s', by rw [Fw.DpAll.length r, Fw.DpAll.length r']; omega⟩
  yld := fun i w1 st H H' ds d x le _ hH hc hd hy => by
    cases hc
    obtain ⟨T, v, u, rfl, nT, rfl, f1, f2⟩ := hy
    obtain ⟨y, z, h1, h2, rfl⟩ := pairs_get hd
    obtain ⟨v', g1, g2⟩ := DpAll.get r h1
    obtain ⟨u', g3, g4⟩ := DpAll.get r' h2
    have e1 := f1 vs (sqL_mono (fun _ _ e => hH.wd (le.W _ _ e)) s)
    rw [g1] at e1; cases e1
    have e2 := f2 us (sqL_mono (fun _ _ e => hH.wd (le.W _ _ e)) s')
    rw [g3] at e2; cases e2
    exact pair_new hH nT (Dp.mono le.W _ _ g2) (Dp.mono le.W _ _ g4)
theorem serves_zipT {S : Hp} {κ : Kx} {w : Wd} {a b : Addr} {vs us : List V} {xs ys : List PyData} (s : SqT κ.K w.W a vs) (r : DpAll κ.K w.W vs xs) (s' : SqT κ.K w.W b us) (r' : DpAll κ.K w.W us ys) : Serves κ w S (.fix (pairs xs ys)) (RZ.ItzT κ.K a b) where
  go := fun i w1 st H ds le _ hH hc hi => by
    cases hc
    rw [pairs_len] at hi
    have h1 : i < vs.length := by rw [Fw.DpAll.length r]; omega
    have h2 : i < us.length := by rw [Fw.DpAll.length r']; omega
    exact ⟨vs, us, vs[i], us[i], sqT_mono (fun _ _ e => hH.wd (le.W _ _ e)) s, sqT_mono (fun _ _ e => hH.wd (le.W _ _ e)) s', by simp [h1], by simp [h2]⟩
  stop := fun i w1 st H ds le _ hH hc hi => by
    cases hc
    rw [pairs_len] at hi
    exact ⟨vs, us, sqT_mono (fun _ _ e => hH.wd (le.W _ _ e)) s, sqT_mono (fun _ _ e => hH.wd (le.W _ _ e)) s', by rw [Fw.DpAll.length r, Fw.DpAll.length r']; omega⟩
  yld := fun i w1 st H H' ds d x le _ hH hc hd hy => by
    cases hc
    obtain ⟨T, v, u, rfl, nT, rfl, f1, f2⟩ := hy
    obtain ⟨y, z, h1, h2, rfl⟩ := pairs_get hd
    obtain ⟨v', g1, g2⟩ := DpAll.get r h1
    obtain ⟨u', g3, g4⟩ := DpAll.get r' h2
    have e1 := f1 vs (sqT_mono (fun _ _ e => hH.wd (le.W _ _ e)) s)
    rw [g1] at e1; cases e1
    have e2 := f2 us (sqT_mono (fun _ _ e => hH.wd (le.W _ _ e)) s')
    rw [g3] at e2; cases e2
    exact pair_new hH nT (Dp.mono le.W _ _ g2) (Dp.mono le.W _ _ g4)
theorem r_zip {b : Expr} {elts : List Expr} {kk : Nat} {tpos : Pos} (hg : Gl X "zip") (hm : X.mg "zip" = none) (ha : PA X [a, b] (rdA (kxOf X ex) ms Wx)) (hs : starEach [a, b] X.env = (false, eval a X.env) :: starEach [b] X.env) (hpl : (backTo pos (starEach [b] X.env)).any (·.1) = false) :
    PI X (.Tuple elts kk tpos) (.Call (.Name "zip" p) [a, b] [] pos) (rdI (kxOf X ex) (iArgs ms zip2) Wx) := (RZ.pi_zipA hg hm ha hs hpl).wk fun σ H Q h => by
  obtain ⟨w, env, st, hE, hH, hp⟩ := h
  refine ⟨w, env, st, hE, hH, (PostG.bnd hp).imp fun ds st1 w1 H1 le hH1 hp1 vs rl => ?_⟩
  unfold opt zip2 at hp1
  split at hp1
  · rename_i sr q
    split at q
    · rename_i xs ys
      cases q
      cases rl with
      | cons r1 r2 =>
        cases r2 with
        | cons r2 r3 =>
          cases r3
          have r1' : Dp X.K w1.W _ (.list xs) := r1
          have r2' : Dp X.K w1.W _ (.list ys) := r2
          obtain ⟨b1, v1, rfl, s1, a1⟩ := Dp.lst_inv r1'
          obtain ⟨b2, v2, rfl, s2, a2⟩ := Dp.lst_inv r2'
          exact ⟨b1, b2, v1, v2, rfl, .inl ⟨sqL_mono (fun _ _ e => hH1.wd e) s1, sqL_mono (fun _ _ e => hH1.wd e) s2, hp1 w1 _ (Wd.Le.refl _) hH1 _ (serves_zipL (κ := kxOf X ex) s1 a1 s2 a2)⟩⟩
    · rename_i xs ys
      cases q
      cases rl with
      | cons r1 r2 =>
        cases r2 with
        | cons r2 r3 =>
          cases r3
          have r1' : Dp X.K w1.W _ (.tuple xs) := r1
          have r2' : Dp X.K w1.W _ (.tuple ys) := r2
          obtain ⟨b1, v1, rfl, s1, a1⟩ := Dp.tup_inv r1'
          obtain ⟨b2, v2, rfl, s2, a2⟩ := Dp.tup_inv r2'
          exact ⟨b1, b2, v1, v2, rfl, .inr ⟨sqT_mono (fun _ _ e => hH1.wd e) s1, sqT_mono (fun _ _ e => hH1.wd e) s2, hp1 w1 _ (Wd.Le.refl _) hH1 _ (serves_zipT (κ := kxOf X ex) s1 a1 s2 a2)⟩⟩
    · cases q
  · exact hp1.elim
end
end Fw

set_option maxRecDepth 100000
set_option maxHeartbeats 4000000
namespace Fw
open PySem PySem.Spec PyProof.Rows L2

/-! ## targets -/
mutual
inductive G where
  | nm (i : Nat)
  | tp (gs : Gs)
inductive Gs where
  | nil
  | cons (g : G) (gs : Gs)
end
mutual
def gSet : G → D → Env' → Option Env'
  | .nm i, d, env => if i < env.length then some (env.set i (some d)) else none
  | .tp gs, d, env => match d with
    | .p (.tuple xs) => gSets gs xs env
    | _ => none
def gSets : Gs → List PyData → Env' → Option Env'
  | .nil, [], env => some env
  | .cons g gs, x :: xs, env => match gSet g (.p x) env with
    | some env1 => gSets gs xs env1
    | none => none
  | .nil, _ :: _, _ => none
  | .cons _ _, [], _ => none
end
mutual
def gIx : G → List Nat
  | .nm i => [i]
  | .tp gs => gIxs gs
def gIxs : Gs → List Nat
  | .nil => []
  | .cons g gs => gIx g ++ gIxs gs
end
def Gs.len : Gs → Nat
  | .nil => 0
  | .cons _ gs => gs.len + 1
theorem gSets_len : ∀ {gs : Gs} {xs : List PyData} {env env' : Env'}, gSets gs xs env = some env' → xs.length = gs.len
  | .nil, [], _, _, _ => rfl
  | .cons g gs, x :: xs, env, env', h => by
    unfold gSets at h
    split at h
    · have := gSets_len h
      show xs.length + 1 = gs.len + 1
      rw [this]
    · cases h
  | .nil, _ :: _, _, _, h => by cases h
  | .cons _ _, [], _, _, h => by cases h
theorem wipe_set {σ : L2.St} {i : Nat} {x : Option V} : ∀ {vs : List Nat}, i ∈ vs → wipe (σ.set i x) vs = wipe σ vs
  | v :: vs, h => by
    show (wipe (σ.set i x) vs).set v none = (wipe σ vs).set v none
    by_cases e : i ∈ vs
    · rw [wipe_set e]
    · have hv : i = v := by
        rcases List.mem_cons.mp h with z | z
        · exact z
        · exact absurd z e
      subst hv
      have aux : ∀ us : List Nat, wipe (σ.set i x) us = (wipe σ us).set i (if i ∈ us then none else x) ∨ i ∈ us := fun us => by
        induction us with
        | nil => exact .inl (by simp [wipe])
        | cons u us ih =>
          by_cases hu : i ∈ (u :: us)
          · exact .inr hu
          · left
            have h1 : i ∉ us := fun z => hu (List.mem_cons_of_mem _ z)
            have h2 : i ≠ u := fun z => hu (by rw [z]; exact List.mem_cons_self)
            rcases ih with z | z
            · show (wipe (σ.set i x) us).set u none = ((wipe σ us).set u none).set i _
              rw [z, if_neg h1, if_neg hu, List.set_comm _ _ h2]
            · exact absurd z h1
      rcases aux vs with z | z
      · rw [z, List.set_set]
      · exact absurd z e
section
variable {X : Cx} {κ : Kx}
theorem RelE.set {w : Wd} {env : Env'} {σ : L2.St} {i : Nat} {d : D} {v : V} (hE : RelE κ w env σ) (hi : i < env.length) (r : RelD κ.K w d v) : RelE κ w (env.set i (some d)) (σ.set i (some v)) := by
  refine ⟨by simp [hE.1], fun j e h => ?_⟩
  by_cases q : i = j
  · subst q
    rw [List.getElem?_set_self hi] at h
    cases h
    exact ⟨v, by rw [List.getElem?_set_self (by rw [← hE.1]; exact hi)], r⟩
  · rw [List.getElem?_set_ne q] at h
    obtain ⟨u, h1, h2⟩ := hE.2 j e h
    exact ⟨u, by rw [List.getElem?_set_ne q]; exact h1, h2⟩
def rdG (κ : Kx) (g : G) : TG := fun v σ H Q => ∃ w env st d env', RelE κ w env σ ∧ HoldK κ w st H ∧ RelD κ.K w d v ∧ gSet g d env = some env' ∧ ∀ σ', RelE κ w env' σ' → (∀ vs, (∀ i ∈ gIx g, i ∈ vs) → wipe σ' vs = wipe σ vs) → Q σ' H
def rdGs (κ : Kx) (gs : Gs) : TGs := fun us σ H Q => ∃ w env st xs env', RelE κ w env σ ∧ HoldK κ w st H ∧ DpAll κ.K w.W us xs ∧ gSets gs xs env = some env' ∧ ∀ σ', RelE κ w env' σ' → (∀ vs, (∀ i ∈ gIxs gs, i ∈ vs) → wipe σ' vs = wipe σ vs) → Q σ' H
theorem _root_.L2.PG.wk {X : Cx} {tg : Expr} {t t' : TG} (h : PG X tg t) (q : ∀ v σ H Q, t' v σ H Q → t v σ H Q) : PG X tg t' := ⟨fun pins s σ H v u Q I r hw => h.run pins s σ H v u Q I r (q v σ H Q hw)⟩
theorem _root_.L2.PGs.wk {X : Cx} {tg : List Expr} {t t' : TGs} (h : PGs X tg t) (q : ∀ v σ H Q, t' v σ H Q → t v σ H Q) : PGs X tg t' := ⟨fun pins s σ H v u Q I r hw => h.run pins s σ H v u Q I r (q v σ H Q hw)⟩
theorem r_gname {i : Nat} {e : Expr} (h : PG X e (gName i)) : PG X e (rdG κ (.nm i)) := h.wk fun v σ H Q h => by
  obtain ⟨w, env, st, d, env', hE, hH, r, e, q⟩ := h
  unfold gSet at e
  split at e
  · rename_i hi
    cases e
    exact q _ (hE.set hi r) fun vs hv => wipe_set (hv i (by simp [gIx]))
  · cases e
theorem r_gnil : PGs X [] (rdGs κ .nil) := pgs_nil.wk fun v σ H Q h => by
  obtain ⟨w, env, st, xs, env', hE, hH, r, e, q⟩ := h
  cases xs with
  | nil =>
    cases r
    cases e
    exact ⟨rfl, q σ hE fun _ _ => rfl⟩
  | cons x xs => cases e
theorem r_gcons {g : G} {gs : Gs} {e : Expr} {es : List Expr} (h1 : PG X e (rdG κ g)) (h2 : PGs X es (rdGs κ gs)) (hs : (assignEach (e :: es) X.env).map (·.2) = assign e X.env :: (assignEach es X.env).map (·.2)) : PGs X (e :: es) (rdGs κ (.cons g gs)) := (pgs_cons h1 h2 hs).wk fun us σ H Q h => by
  obtain ⟨w, env, st, xs, env', hE, hH, r, e, q⟩ := h
  cases xs with
  | nil => cases e
  | cons x xs =>
    cases r with
    | cons r1 r2 =>
      unfold gSets at e
      split at e
      · rename_i env1 e1
        refine ⟨_, _, rfl, w, env, st, .p x, env1, hE, hH, r1, e1, fun σ1 hE1 w1 => ?_⟩
        exact ⟨w, env1, st, xs, env', hE1, hH, r2, e, fun σ2 hE2 w2 => q σ2 hE2 fun vs hv => (w2 vs fun i hi => hv i (by simp [gIxs, hi])).trans (w1 vs fun i hi => hv i (by simp [gIxs, hi]))⟩
      · cases e
theorem r_gtup {gs : Gs} {es : List Expr} {k : Nat} {pos : Pos} (hc : X.calm = true) (h : PGs X es (rdGs (kxOf X ex) gs)) (hn : (assignEach es X.env).length = gs.len) (hst : (assignEach es X.env).findIdx? (·.1) = none) : PG X (.Tuple es k pos) (rdG (kxOf X ex) (.tp gs)) := (pg_tup hc h hn hst).wk fun v σ H Q h => by
  obtain ⟨w, env, st, d, env', hE, hH, r, e, q⟩ := h
  unfold gSet at e
  split at e
  · rename_i xs
    have r' : Dp X.K w.W v (.tuple xs) := r
    obtain ⟨a, vs, rfl, s1, a1⟩ := Dp.tup_inv r'
    exact ⟨a, vs, rfl, sqT_mono (fun _ _ e => hH.wd e) s1, by rw [Fw.DpAll.length a1, gSets_len e], w, env, st, xs, env', hE, hH, a1, e, q⟩
  · cases e
end

/-! ## comprehensions -/
def wipeE (env : Env') : List Nat → Env'
  | [] => env
  | v :: vs => (wipeE env vs).set v none
theorem wipeE_some {env : Env'} {i : Nat} {x : D} : ∀ {vs : List Nat}, (wipeE env vs)[i]? = some (some x) → env[i]? = some (some x) ∧ i ∉ vs
  | [], h => ⟨h, by simp⟩
  | v :: vs, h => by
    have h' : ((wipeE env vs).set v none)[i]? = some (some x) := h
    by_cases hi : v = i
    · subst hi
      by_cases hv : v < (wipeE env vs).length
      · rw [List.getElem?_set_self hv] at h'; cases h'
      · rw [List.getElem?_eq_none (by simpa using hv)] at h'; cases h'
    · rw [List.getElem?_set_ne hi] at h'
      obtain ⟨h1, h2⟩ := wipeE_some h'
      exact ⟨h1, by simp only [List.mem_cons, not_or]; exact ⟨fun e => hi e.symm, h2⟩⟩
theorem wipeE_len (env : Env') : ∀ vs : List Nat, (wipeE env vs).length = env.length
  | [] => rfl
  | v :: vs => by show ((wipeE env vs).set v none).length = _; rw [List.length_set, wipeE_len env vs]
theorem RelE.wipe {κ : Kx} {w : Wd} {env : Env'} {σ : L2.St} (h : RelE κ w env σ) (vs : List Nat) : RelE κ w (wipeE env vs) (wipe σ vs) := by
  refine ⟨by rw [wipeE_len, wipe_length, h.1], fun i d e => ?_⟩
  obtain ⟨h1, h2⟩ := wipeE_some e
  obtain ⟨v, h3, h4⟩ := h.2 i d h1
  exact ⟨v, by rw [wipe_out h2]; exact h3, h4⟩
/-- nothing is raised -/
def noexc {α : Type} (m : M α) : M α := fun st => match m st with
  | .ok a st' => .ok a st'
  | .exc _ _ => .bad
  | .bad => .bad
/-- the items of a comprehension, one after another -/
def compL (turn : D → M (List D)) : List D → M (List D)
  | [] => ret []
  | x :: xs => bnd (turn x) fun l => bnd (compL turn xs) fun r => ret (l ++ r)
def compS (src : Src) (turn : D → M (List D)) : Nat → Nat → M (List D)
  | 0, i => fun st => match cont src st with
    | some ds => if ds.length ≤ i then .ok [] st else .bad
    | none => .bad
  | f + 1, i => fun st => match cont src st with
    | some ds => (match ds[i]? with
      | some x => bnd (turn x) (fun l => bnd (compS src turn f (i + 1)) fun r => ret (l ++ r)) st
      | none => .ok [] st)
    | none => .bad
theorem compS_fix {xs : List D} {turn : D → M (List D)} : ∀ (f i : Nat), f + i = xs.length → compS (.fix xs) turn f i = compL turn (xs.drop i)
  | 0, i, h => by
    funext st
    have e : xs.drop i = [] := by rw [List.drop_eq_nil_iff]; omega
    rw [e]
    show (if xs.length ≤ i then R.ok [] st else .bad) = R.ok [] st
    rw [if_pos (by omega)]
  | f + 1, i, h => by
    funext st
    have hi : i < xs.length := by omega
    rw [List.drop_eq_getElem_cons hi]
    show (match xs[i]? with
      | some x => bnd (turn x) (fun l => bnd (compS (.fix xs) turn f (i + 1)) fun r => ret (l ++ r)) st
      | none => R.ok [] st) = _
    rw [show xs[i]? = some xs[i] by simp [hi], compS_fix f (i + 1) (by omega)]
    rfl
def srcLen (s : Src) (st : Sto) : Option Nat := (cont s st).map List.length
/-- a turn: the target, then the rest -/
def turnG (g : G) (env : Env') (body : Env' → M (List D)) : D → M (List D) := fun x => match gSet g x env with
  | none => bad
  | some env1 => noexc (body env1)
def bodyC (t : Env' → M Bool) (m : Env' → M D) : Env' → M (List D) := fun env1 => bnd (t env1) fun b => if b = true then bnd (m env1) fun y => ret [y] else ret []
def compR (cap : Nat) (env : Env') (g : G) (own : List Nat) (body : Env' → M (List D)) (src : Src) : M (List D) := fun st => match srcLen src st with
  | some n => if n ≤ cap then compS src (turnG g (wipeE env own) body) n 0 st else .bad
  | none => .bad
/-- the second clause of a comprehension -/
def bodyI (t : Env' → M Bool) (mi : Env' → M Src) (g : G) (own : List Nat) (body : Env' → M (List D)) : Env' → M (List D) := fun env1 => bnd (t env1) fun b => if b = true then bnd (mi env1) fun src => compR 1000 env1 g own body src else ret []
/-- the new list: one that stands still, or a mutable one -/
def endC (mu : Bool) (ds : List D) : M D := fun st => if mu = true then (if (ds.all fun d => match d with
  | .p _ => true
  | .loc j => decide (j < st.length)) = true then .ok (.loc st.length) (st ++ [.lst ds]) else .bad) else match pures ds with
  | some xs => .ok (.p (.list xs)) st
  | none => .bad
def mComp (mu : Bool) (mi : Env' → M Src) (g : G) (own : List Nat) (t : Env' → M Bool) (m : Env' → M D) : Env' → M D := fun env => bnd (mi env) fun src => bnd (compR 1000000 env g own (bodyC t m) src) (endC mu)
def mComp2 (mu : Bool) (mi : Env' → M Src) (g : G) (own : List Nat) (t : Env' → M Bool) (mi1 : Env' → M Src) (g1 : G) (own1 : List Nat) (t1 : Env' → M Bool) (m : Env' → M D) : Env' → M D := fun env => bnd (mi env) fun src => bnd (compR 1000 env g own (bodyI t mi1 g1 own1 (bodyC t1 m)) src) (endC mu)
abbrev FW : WX := fun _ _ _ _ => False
section
variable {X : Cx} {κ : Kx} {Wx : WX} {ex : Nat → Addr}
theorem PostG.noexc {α : Type} {m : M α} {w : Wd} {st : Sto} {σ σ' : L2.St} {C : α → Sto → Wd → Hp → Prop} (h : PostG κ Wx σ w (noexc m st) C) : PostG κ FW σ' w (m st) C := by
  unfold Fw.noexc at h
  cases q : m st with
  | ok a st' => rw [q] at h; exact h
  | exc c st' => rw [q] at h; exact h.elim
  | bad => rw [q] at h; exact h.elim
/-- what is left of a comprehension, in the world without the list -/
theorem comp_end {w w1 : Wd} {st : Sto} {H : Hp} {D : Addr} {ds : List Fw.D} {vs : List V} {mu : Bool} {σ : L2.St} {Q : VK} (hH : HoldK κ w1 st H) (lc : w.Lc w1) (hT : w1.T = upd w.T D (.lst vs)) (nT : w.T D = none) (rl : RelL κ.K w1 ds vs)
    (hp : PostG κ Wx σ (w1.tmp w.T) (endC mu ds st) (CV κ Q)) : Q (.ref D) H := by
  have hD : w1.T D = some (.lst vs) := by rw [hT, upd_same]
  have ht : ∀ a u, w.T a = some u → w1.T a = some u ∧ a ≠ D := fun a u e => by
    have na := ne_of_none e nT
    rw [hT, upd_ne na]
    exact ⟨e, na⟩
  unfold endC at hp
  cases mu with
  | true =>
    rw [if_pos rfl] at hp
    split at hp
    · rename_i hw
      have hI := Hold.tmp_mut (b := .lst ds) hH hD ⟨vs, rfl, rl⟩ (wf_all hw) ht
      refine hp (w1.put D w.T) H ⟨⟨fun _ _ e => e, [D], rfl⟩, rfl⟩ hI _ ⟨D, rfl, ?_⟩
      show (w1.L ++ [D])[st.length]? = some D
      rw [← hH.len, List.getElem?_append_right (Nat.le_refl _)]
      simp
    · exact hp.elim
  | false =>
    rw [if_neg Bool.false_ne_true] at hp
    cases q : pures ds with
    | none => rw [q] at hp; exact hp.elim
    | some xs =>
      rw [q] at hp
      have e := pures_eq q
      subst e
      have hI := Hold.tmp_imm (o := .lst vs) hH hD trivial ht
      have hWD := (hH.tw D _ hD).1
      have lw : ∀ a u, w1.W a = some u → (w1.fix D (.lst vs) w.T).W a = some u := fun a u e => by
        show upd w1.W D (.lst vs) a = some u
        rw [upd_ne (ne_of_none e hWD)]; exact e
      exact hp (w1.fix D (.lst vs) w.T) H ⟨⟨lw, [], by simp [Wd.fix, Wd.tmp]⟩, rfl⟩ hI _ (.lst (SqL.of upd_same) (Dp.monoA lw _ _ rl.pure))
theorem PostG.tmp {α : Type} {m : M α} {w : Wd} {t : Hp} {st : Sto} {σ : L2.St} {C : α → Sto → Wd → Hp → Prop} (h : PostG κ Wx σ w (m st) C) : PostG κ Wx σ w (m st) C := h
/-- a temporary left out -/
theorem Hold.untmp {w : Wd} {st : Sto} {H : Hp} {D : Addr} {o : HO} {T0 : Hp} (h : HoldK κ w st H) (hT : w.T = upd T0 D o) (nT : T0 D = none) : HoldK κ (w.tmp T0) st H := by
  have hT2 : ∀ a u, T0 a = some u → w.T a = some u := fun a u e => by rw [hT, upd_ne (ne_of_none e nT)]; exact e
  exact ⟨h.imm, h.len, fun n a b e1 e2 => by
    obtain ⟨o, h1, h2⟩ := h.obs n a b e1 e2
    exact ⟨o, h1, h2.mono Wd.lc_tmp⟩, h.nd, h.ap, h.wf, fun a u e => h.tmp a u (hT2 a u e), fun a u e => h.tw a u (hT2 a u e), fun a xs e => h.tt a xs (hT2 a _ e)⟩
theorem PostG.up {β : Type} {r : R β} {w : Wd} {σ : L2.St} {D : Addr} {o : HO} {T0 : Hp} {C : β → Sto → Wd → Hp → Prop} (hT : w.T = upd T0 D o) (nT : T0 D = none) (h : PostG κ Wx σ (w.tmp T0) r C) : PostG κ Wx σ w r fun b st' w' H' => C b st' (w'.tmp T0) H' := by
  have up : ∀ {w' : Wd}, w.Le w' → (w.tmp T0).Le (w'.tmp T0) := fun le => ⟨⟨le.W, le.L⟩, rfl⟩
  cases r with
  | ok b st => exact fun w' H le hh => h (w'.tmp T0) H (up le) (Hold.untmp hh (le.T.trans hT) nT)
  | exc c st => exact fun w' H le hh => h (w'.tmp T0) H (up le) (Hold.untmp hh (le.T.trans hT) nT)
  | bad => exact h
theorem wipe_wipe (σ : L2.St) : ∀ vs : List Nat, wipe (wipe σ vs) vs = wipe σ vs := fun vs => by
  have aux : ∀ us : List Nat, (∀ u ∈ us, u ∈ vs) → wipe (wipe σ vs) us = wipe σ vs := fun us => by
    induction us with
    | nil => intro _; rfl
    | cons u us ih =>
      intro h
      show (wipe (wipe σ vs) us).set u none = wipe σ vs
      rw [ih fun x hx => h x (List.mem_cons_of_mem _ hx)]
      have hu : u ∈ vs := h u List.mem_cons_self
      -- the slot is none already
      have none_at : ∀ {vs : List Nat}, u ∈ vs → u < σ.length → (wipe σ vs)[u]? = some none := fun {vs} => by
        induction vs with
        | nil => intro h; cases h
        | cons v vs ih2 =>
          intro h hl
          show ((wipe σ vs).set v none)[u]? = some none
          by_cases e : v = u
          · subst e
            rw [List.getElem?_set_self (by rw [wipe_length]; exact hl)]
          · rw [List.getElem?_set_ne e]
            rcases List.mem_cons.mp h with z | z
            · exact absurd z.symm e
            · exact ih2 z hl
      by_cases hl : u < σ.length
      · apply List.ext_getElem?
        intro j
        by_cases e : u = j
        · subst e
          rw [List.getElem?_set_self (by rw [wipe_length]; exact hl), none_at hu hl]
        · rw [List.getElem?_set_ne e]
      · rw [List.set_eq_of_length_le (by rw [wipe_length]; omega)]
  exact aux vs fun _ h => h
/-- what a loop of a comprehension is to do -/
def loopW (J : It) (Z : Hp → Prop) (g : TG) (σ : L2.St) (vs : List Nat) (B : L2.St → Hp → (Hp → Prop) → Prop) (H0 : Hp) : Prop := ∃ W : Nat → Nat → Hp → Prop, (∃ m, W 0 m H0) ∧ ∀ i m H, W i m H →
  (J.stop i H ∧ Z H) ∨ (J.go i H ∧ ∃ Nx : Hp → Prop, (∀ H', Nx H' → ∃ m', m' < m ∧ W (i + 1) m' H') ∧ ∀ x H', J.yld i H x H' → g x (wipe σ vs) H' fun σ2 H2 => wipe σ2 vs = wipe σ vs ∧ B σ2 H2 Nx)
/-- where a loop stands: the list at D holds us, which stand for ds -/
structure Std (κ : Kx) (w1 : Wd) (T0 : Hp) (D : Addr) (w : Wd) (st : Sto) (H : Hp) (ds : List Fw.D) (us : List V) : Prop where
  lc : w1.Lc w
  t : w.T = upd T0 D (.lst us)
  h : HoldK κ w st H
  rl : RelL κ.K w ds us
/-- a body's reading, by its computation -/
def BodyOk (κ : Kx) (D : Addr) (T0 : Hp) (c : Nat) (body : Env' → M (List Fw.D)) (B : L2.St → Hp → (Hp → Prop) → Prop) : Prop :=
  ∀ (w1 w2 : Wd) (st : Sto) (H' : Hp) (ds : List Fw.D) (us : List V) (env3 : Env') (σ3 : L2.St) (Nx : Hp → Prop) (C4 : List Fw.D → Sto → Wd → Hp → Prop), RelE κ w2 env3 σ3 → Std κ w1 T0 D w2 st H' ds us → us.length + c ≤ 2000000 →
    PostG κ FW σ3 (w2.tmp T0) (body env3 st) C4 →
    (∀ (st4 : Sto) (w4 : Wd) (H4 : Hp) (l : List Fw.D) (us4 : List V), w2.Lc w4 → Std κ w1 T0 D w4 st4 H4 (ds ++ l) us4 → us4.length ≤ us.length + c → C4 l st4 (w4.tmp T0) H4 → Nx H4) → B σ3 H' Nx
theorem comp_loop {S : Hp} {w1 w : Wd} {src : Src} {J : It} {Z : Hp → Prop} {g : G} {σ σx : L2.St} {Wy : WX} {vs : List Nat} {B : L2.St → Hp → (Hp → Prop) → Prop} {H0 : Hp} {D : Addr} {T0 : Hp} {c n : Nat} {body : Env' → M (List Fw.D)} {env : Env'} {st0 : Sto} {ds0 : List Fw.D} {us0 : List V} {C : List Fw.D → Sto → Wd → Hp → Prop}
    (hg : ∀ i ∈ gIx g, i ∈ vs) (sv : Serves κ w1 S src J) (hS : ∀ b o, S b = some o → T0 b = some o) (nT : T0 D = none) (hb : BodyOk κ D T0 c body B) (hE : RelE κ w1 env σ) (sd : Std κ w1 T0 D w st0 H0 ds0 us0) (hc : us0.length + (n + 1) * c ≤ 2000000)
    (hp : PostG κ Wy σx (w.tmp T0) (compS src (turnG g (wipeE env vs) body) n 0 st0) fun r st2 w2 H2 => C (ds0 ++ r) st2 w2 H2)
    (fin : ∀ (st4 : Sto) (w4 : Wd) (H4 : Hp) (ds4 : List Fw.D) (us4 : List V), w.Lc w4 → Std κ w1 T0 D w4 st4 H4 ds4 us4 → us4.length ≤ us0.length + n * c → C ds4 st4 (w4.tmp T0) H4 → Z H4) :
    loopW J Z (rdG κ g) σ vs B H0 := by
  refine ⟨fun i f H => f + i = n ∧ ∃ (w' : Wd) (st : Sto) (ds : List Fw.D) (us : List V), w.Lc w' ∧ Std κ w1 T0 D w' st H ds us ∧ us.length ≤ us0.length + i * c ∧
    PostG κ Wy σx (w'.tmp T0) (compS src (turnG g (wipeE env vs) body) f i st) (fun r st2 w2 H2 => C (ds ++ r) st2 w2 H2), ⟨n, rfl, w, st0, ds0, us0, Wd.Lc.refl w, sd, by omega, hp⟩, ?_⟩
  rintro i f H ⟨hfi, w', st, ds, us, lcw, sd, hul, hp⟩
  have hin : i ≤ n := by omega
  have hSw : ∀ b o, S b = some o → w'.T b = some o := fun b o e => by
    rw [sd.t, upd_ne (ne_of_none (hS b o e) nT)]
    exact hS b o e
  have hic : i * c ≤ n * c := Nat.mul_le_mul_right c hin
  have done : PostG κ Wy σx (w'.tmp T0) (.ok ([] : List Fw.D) st) (fun r st2 w2 H2 => C (ds ++ r) st2 w2 H2) → Z H := fun hq => by
    have hq' : ∀ w'' H', (w'.tmp T0).Le w'' → HoldK κ w'' st H' → C (ds ++ []) st w'' H' := hq
    rw [List.append_nil] at hq'
    exact fin st w' H ds us lcw sd (by omega) (hq' _ H (Wd.Le.refl _) (Hold.untmp sd.h sd.t nT))
  cases f with
  | zero =>
    have hp' : PostG κ Wy σx (w'.tmp T0) (match cont src st with
      | some ds => if ds.length ≤ i then R.ok [] st else .bad
      | none => .bad) (fun r st2 w2 H2 => C (ds ++ r) st2 w2 H2) := hp
    cases qc : cont src st with
    | none => rw [qc] at hp'; exact hp'.elim
    | some ls =>
      rw [qc] at hp'
      simp only at hp'
      split at hp'
      · rename_i hl
        exact .inl ⟨sv.stop i w' st H ls sd.lc hSw sd.h qc hl, done hp'⟩
      · exact hp'.elim
  | succ f =>
    have hp' : PostG κ Wy σx (w'.tmp T0) (match cont src st with
      | some ds => (match ds[i]? with
        | some x => bnd (turnG g (wipeE env vs) body x) (fun l => bnd (compS src (turnG g (wipeE env vs) body) f (i + 1)) fun r => ret (l ++ r)) st
        | none => .ok [] st)
      | none => .bad) (fun r st2 w2 H2 => C (ds ++ r) st2 w2 H2) := hp
    cases qc : cont src st with
    | none => rw [qc] at hp'; exact hp'.elim
    | some ls =>
      rw [qc] at hp'
      simp only at hp'
      cases qi : ls[i]? with
      | none =>
        rw [qi] at hp'
        exact .inl ⟨sv.stop i w' st H ls sd.lc hSw sd.h qc (List.getElem?_eq_none_iff.mp qi), done hp'⟩
      | some x =>
        rw [qi] at hp'
        simp only at hp'
        have hli : i < ls.length := (List.getElem?_eq_some_iff.mp qi).1
        refine .inr ⟨sv.go i w' st H ls sd.lc hSw sd.h qc hli, fun H' => ∃ (w' : Wd) (st : Sto) (ds : List Fw.D) (us : List V), w.Lc w' ∧ Std κ w1 T0 D w' st H' ds us ∧ us.length ≤ us0.length + (i + 1) * c ∧
          PostG κ Wy σx (w'.tmp T0) (compS src (turnG g (wipeE env vs) body) f (i + 1) st) (fun r st2 w2 H2 => C (ds ++ r) st2 w2 H2), fun H' hN => ⟨f, Nat.lt_succ_self f, by omega, hN⟩, fun v H' hy => ?_⟩
        obtain ⟨w2, le2, hH2, rx⟩ := sv.yld i w' st H H' ls x v sd.lc hSw sd.h qc qi hy
        have lc2 : w1.Lc w2 := sd.lc.trans le2.toLc
        have hE2 : RelE κ w2 (wipeE env vs) (wipe σ vs) := (hE.mono lc2).wipe vs
        have hp3 := PostG.bnd hp'
        unfold turnG at hp3
        cases qg : gSet g x (wipeE env vs) with
        | none => rw [qg] at hp3; exact hp3.elim
        | some env3 =>
          rw [qg] at hp3
          simp only at hp3
          refine ⟨w2, wipeE env vs, st, x, env3, hE2, hH2, rx, qg, fun σ3 hE3 hw3 => ⟨by rw [hw3 vs hg]; exact wipe_wipe σ vs, ?_⟩⟩
          have le3 : (w'.tmp T0).Le (w2.tmp T0) := ⟨⟨le2.W, le2.L⟩, rfl⟩
          have hic2 : (i + 1) * c ≤ (n + 1) * c := Nat.mul_le_mul_right c (by omega)
          have hic3 : (i + 1) * c = i * c + c := by rw [Nat.add_mul, Nat.one_mul]
          refine hb w1 w2 st H' ds us env3 σ3 _ _ hE3 ⟨lc2, le2.T.trans sd.t, hH2, sd.rl.mono le2.toLc⟩ (by omega) (PostG.noexc (PostG.anti le3 hp3)) fun st4 w4 H4 l us4 lc4 sd4 hl4 hc4 => ?_
          refine ⟨w4, st4, ds ++ l, us4, (lcw.trans le2.toLc).trans lc4, sd4, by omega, ?_⟩
          refine (PostG.bnd hc4).imp fun r st5 w5 H5 le5 hH5 hp8 => ?_
          have hp9 := PostG.ret (C := fun r st2 w2 H2 => C (ds ++ r) st2 w2 H2) hH5 hp8
          rw [List.append_assoc]
          exact hp9
/-- the body of a plain comprehension -/
theorem body_plain {D : Addr} {T0 : Hp} {t : Env' → M Bool} {m : Env' → M Fw.D} (nT : T0 D = none) : BodyOk κ D T0 1 (bodyC t m) fun σ3 H' Nx => rdT κ t FW σ3 H' fun b H3 => if b = true then rdE κ m FW σ3 H3 fun y H4 => ∃ acc, H4 D = some (.lst acc) ∧ acc.length < sizeLine ∧ Nx (upd H4 D (.lst (acc ++ [y]))) else Nx H3 := by
  intro w1 w2 st H' ds us env3 σ3 Nx C4 hE3 sd hcap hp fin
  refine ⟨w2, env3, st, hE3, sd.h, (PostG.up sd.t nT (PostG.bnd hp)).imp fun b st1 w3 H3 le3 hH3 hp5 => ?_⟩
  have t3 : w3.T = upd T0 D (.lst us) := le3.T.trans sd.t
  cases b with
  | true =>
    rw [if_pos rfl] at hp5
    refine iteT ⟨w3, env3, st1, hE3.mono le3.toLc, hH3, (PostG.up t3 nT (PostG.bnd hp5)).imp fun y st4 w4 H4 le4 hH4 hp6 v rv => ?_⟩
    have t4 : w4.T = upd T0 D (.lst us) := le4.T.trans t3
    have d4 : w4.T D = some (.lst us) := by rw [t4, upd_same]
    have hp7 := PostG.ret (Hold.untmp hH4 t4 nT) hp6
    refine ⟨us, hH4.tmp D _ d4, Nat.lt_of_lt_of_le (show us.length < 2000001 by omega) (by rw [sizeLine_eq]; omega), ?_⟩
    have hs := Hold.tmp_set (o' := .lst (us ++ [v])) hH4 d4 (fun _ z => nomatch z)
    rw [t4, upd_upd] at hs
    have lc34 : w2.Lc w4 := (le3.trans le4).toLc
    refine fin st4 (w4.tmp (upd T0 D (.lst (us ++ [v])))) _ [y] (us ++ [v]) (lc34.trans Wd.lc_tmp) ⟨(sd.lc.trans lc34).trans Wd.lc_tmp, rfl, hs, RelL.mono Wd.lc_tmp (RelL.app (sd.rl.mono lc34) (.cons rv .nil))⟩ (by simp) ?_
    -- the end speaks of the world alone
    have hold : HoldK κ (w4.tmp T0) st4 (upd H4 D (.lst (us ++ [v]))) := Hold.untmp (w := w4.tmp (upd T0 D (.lst (us ++ [v])))) hs rfl nT
    exact PostG.ret hold hp6
  | false =>
    rw [if_neg Bool.false_ne_true] at hp5
    refine iteF ?_
    have hp7 := PostG.ret (Hold.untmp hH3 t3 nT) hp5
    refine fin st1 w3 H3 [] us le3.toLc ⟨sd.lc.trans le3.toLc, t3, hH3, by rw [List.append_nil]; exact sd.rl.mono le3.toLc⟩ (by omega) hp7
/-- the body that is a second clause -/
theorem body_inner {D : Addr} {T0 : Hp} {t : Env' → M Bool} {mi : Env' → M Src} {g : G} {vs : List Nat} {body : Env' → M (List Fw.D)} {B : L2.St → Hp → (Hp → Prop) → Prop} (nT : T0 D = none) (hg : ∀ i ∈ gIx g, i ∈ vs) (hb : BodyOk κ D T0 1 body B) :
    BodyOk κ D T0 1001 (bodyI t mi g vs body) fun σ3 H' Nx => rdT κ t FW σ3 H' fun b H3 => if b = true then rdI κ mi FW σ3 H3 fun J H4 => loopW J Nx (rdG κ g) σ3 vs B H4 else Nx H3 := by
  intro w1 w2 st H' ds us env3 σ3 Nx C4 hE3 sd hcap hp fin
  refine ⟨w2, env3, st, hE3, sd.h, (PostG.up sd.t nT (PostG.bnd hp)).imp fun b st1 w3 H3 le3 hH3 hp5 => ?_⟩
  have t3 : w3.T = upd T0 D (.lst us) := le3.T.trans sd.t
  cases b with
  | true =>
    rw [if_pos rfl] at hp5
    refine iteT ⟨w3, env3, st1, hE3.mono le3.toLc, hH3, (PostG.up t3 nT (PostG.bnd hp5)).imp fun src st4 w4 H4 le4 hH4 hp6 J sv => ?_⟩
    have t4 : w4.T = upd T0 D (.lst us) := le4.T.trans t3
    have lc34 : w2.Lc w4 := (le3.trans le4).toLc
    unfold compR at hp6
    cases qn : srcLen src st4 with
    | none => rw [qn] at hp6; exact hp6.elim
    | some n =>
      rw [qn] at hp6
      dsimp only at hp6
      by_cases hn : n ≤ 1000
      · rw [if_pos hn] at hp6
        refine comp_loop (w1 := w4) (w := w4) (T0 := T0) (us0 := us) (ds0 := ds) (n := n) (C := fun r st2 w2 H2 => ∃ l, r = ds ++ l ∧ C4 l st2 w2 H2) hg sv (fun _ _ z => nomatch z) nT hb (hE3.mono lc34) ⟨Wd.Lc.refl _, t4, hH4, sd.rl.mono lc34⟩ (by omega) (hp6.imp fun r st2 w2 H2 _ _ q => ⟨r, rfl, q⟩) fun st5 w5 H5 ds5 us5 lc5 sd5 hl5 hq => ?_
        obtain ⟨l, rfl, hq⟩ := hq
        exact fin st5 w5 H5 l us5 (lc34.trans lc5) ⟨sd.lc.trans (lc34.trans lc5), sd5.t, sd5.h, sd5.rl⟩ (by omega) hq
      · rw [if_neg hn] at hp6
        exact hp6.elim
  | false =>
    rw [if_neg Bool.false_ne_true] at hp5
    refine iteF ?_
    have hp7 := PostG.ret (Hold.untmp hH3 t3 nT) hp5
    refine fin st1 w3 H3 [] us le3.toLc ⟨sd.lc.trans le3.toLc, t3, hH3, by rw [List.append_nil]; exact sd.rl.mono le3.toLc⟩ (by omega) hp7
/-- the reading of a comprehension -/
theorem rd_compG {mu : Bool} {mi : Env' → M Src} {g : G} {σ : L2.St} {H : Hp} {Q : VK} {vs : List Nat} {c cap : Nat} {body : Env' → M (List Fw.D)} {B : Addr → L2.St → Hp → (Hp → Prop) → Prop} (hg : ∀ i ∈ gIx g, i ∈ vs) (hb : ∀ D T0, T0 D = none → BodyOk κ D T0 c body (B D)) (hcap : (cap + 1) * c ≤ 2000000)
    (h : rdE κ (fun env => bnd (mi env) fun src => bnd (compR cap env g vs body src) (endC mu)) Wx σ H Q) : rdI κ mi Wx σ H fun J H1 => ∀ D, H1 D = none → loopW J (fun H => Q (.ref D) H) (rdG κ g) σ vs (B D) (upd H1 D (.lst [])) := by
  obtain ⟨w0, env, st0, hE0, hH0, hp0⟩ := h
  refine ⟨w0, env, st0, hE0, hH0, (PostG.bnd hp0).imp fun src st1 w1 H1 le1 hH1 hp1 J sv D nD => ?_⟩
  have nT : w1.T D = none := by
    cases q : w1.T D with
    | none => rfl
    | some o => rw [hH1.tmp D o q] at nD; cases nD
  have hp2 := PostG.bnd hp1
  unfold compR at hp2
  cases qn : srcLen src st1 with
  | none => rw [qn] at hp2; exact hp2.elim
  | some n =>
    rw [qn] at hp2
    dsimp only at hp2
    by_cases hn : n ≤ cap
    · rw [if_pos hn] at hp2
      have hcn : (n + 1) * c ≤ (cap + 1) * c := Nat.mul_le_mul_right c (by omega)
      refine comp_loop (w1 := w1) (w := w1.tmp (upd w1.T D (.lst []))) (T0 := w1.T) (us0 := []) (ds0 := []) (n := n) (C := fun r st2 w2 H2 => PostG κ Wx σ w2 (endC mu r st2) (CV κ Q)) hg sv (fun _ _ z => nomatch z) nT (hb D _ nT) (hE0.mono le1.toLc) ⟨Wd.lc_tmp, rfl, Hold.tmp_new hH1 nD (fun _ z => nomatch z), .nil⟩ (by simp; omega) (hp2.imp fun r st2 w2 H2 _ _ q => q) fun st4 w4 H4 ds4 us4 lc4 sd4 _ hq => ?_
      exact comp_end sd4.h sd4.lc sd4.t nT sd4.rl hq
    · rw [if_neg hn] at hp2
      exact hp2.elim
end
end Fw

set_option maxRecDepth 100000
set_option maxHeartbeats 4000000
namespace Fw
open PySem PySem.Spec PyProof.Rows L2
section
variable {X : Cx} {κ : Kx} {Wx : WX} {ex : Nat → Addr} {elt tg iter tg1 iter1 : Expr} {ifs ifs1 : List Expr} {scope : Scope} {own : List (Str × Nat)} {pos : Pos} {mi mi1 : Env' → M Src} {g g1 : G} {t t1 : Env' → M Bool} {m : Env' → M D}
theorem _root_.L2.PTs.wk {X : Cx} {e : List Expr} {t t' : TT} (h : PTs X e t) (q : ∀ σ H Q, t' σ H Q → t σ H Q) : PTs X e t' := ⟨fun pins s σ H Q I hw => h.run pins s σ H Q I (q σ H Q hw)⟩
def tTr : Env' → M Bool := fun _ => ret true
theorem r_ts0 : PTs X [] (rdT κ tTr Wx) := pts_nil.wk fun σ H Q h => by
  obtain ⟨w, env, st, hE, hH, hp⟩ := h
  exact PostG.ret (C := CB Q) hH hp
theorem r_ts1 {c : Expr} (h : PT X c (rdT κ t Wx)) : PTs X [c] (rdT κ t Wx) := pts_one h
theorem r_comp {mu : Bool} (hc : X.calm = true) (hN : X.N.Nodup) (hi : PI X tg iter (rdI (kxOf X ex) mi Wx)) (ok : BlkOk X.N X.env.scope scope own) (hgx : ∀ i ∈ gIx g, i ∈ own.map (·.2))
    (hg : ∀ (s : Shared) (H : Hp) (C : Addr) (cl : List (Str × Addr)) (fp : List Addr), PG (X.blk s H scope (compEnvC scope cl C X.env) fp) tg (rdG (kxOf X ex) g)) (ht : ∀ (s : Shared) (H : Hp) (C : Addr) (cl : List (Str × Addr)) (fp : List Addr), PTs (X.blk s H scope (compEnvC scope cl C X.env) fp) ifs (rdT (kxOf X ex) t FW))
    (he : ∀ (s : Shared) (H : Hp) (C : Addr) (cl : List (Str × Addr)) (fp : List Addr), PE (X.blk s H scope (compEnvC scope cl C X.env) fp) elt (rdE (kxOf X ex) m FW)) (hs : ∀ x, foldedSetIterable iter X.env x = pure x) :
    PE X (.ListComp elt [⟨tg, iter, ifs, 0⟩] scope pos) (rdE (kxOf X ex) (mComp mu mi g (own.map (·.2)) t m) Wx) :=
  (pe_lc hc hN hi ok hg ht he hs).wk fun σ H Q h => rd_compG (B := fun D σ3 H' Nx => rdT (kxOf X ex) t FW σ3 H' fun b H3 => if b = true then rdE (kxOf X ex) m FW σ3 H3 fun y H4 => ∃ acc, H4 D = some (.lst acc) ∧ acc.length < sizeLine ∧ Nx (upd H4 D (.lst (acc ++ [y]))) else Nx H3) hgx (fun D T0 nT => body_plain nT) (by decide) h
theorem r_comp2 {mu : Bool} {vs1 : List Nat} (hc : X.calm = true) (hN : X.N.Nodup) (hi : PI X tg iter (rdI (kxOf X ex) mi Wx)) (ok : BlkOk X.N X.env.scope scope own) (hv : ∀ i ∈ vs1, i ∈ own.map (·.2)) (hgx : ∀ i ∈ gIx g, i ∈ own.map (·.2)) (hgx1 : ∀ i ∈ gIx g1, i ∈ vs1)
    (hg : ∀ (s : Shared) (H : Hp) (C : Addr) (cl : List (Str × Addr)) (fp : List Addr), PG (X.blk s H scope (compEnvC scope cl C X.env) fp) tg (rdG (kxOf X ex) g)) (ht : ∀ (s : Shared) (H : Hp) (C : Addr) (cl : List (Str × Addr)) (fp : List Addr), PTs (X.blk s H scope (compEnvC scope cl C X.env) fp) ifs (rdT (kxOf X ex) t FW))
    (hi1 : ∀ (s : Shared) (H : Hp) (C : Addr) (cl : List (Str × Addr)) (fp : List Addr), PI (X.blk s H scope (compEnvC scope cl C X.env) fp) tg1 iter1 (rdI (kxOf X ex) mi1 FW))
    (hg1 : ∀ (s : Shared) (H : Hp) (C : Addr) (cl : List (Str × Addr)) (fp : List Addr), PG (X.blk s H scope (compEnvC scope cl C X.env) fp) tg1 (rdG (kxOf X ex) g1)) (ht1 : ∀ (s : Shared) (H : Hp) (C : Addr) (cl : List (Str × Addr)) (fp : List Addr), PTs (X.blk s H scope (compEnvC scope cl C X.env) fp) ifs1 (rdT (kxOf X ex) t1 FW))
    (he : ∀ (s : Shared) (H : Hp) (C : Addr) (cl : List (Str × Addr)) (fp : List Addr), PE (X.blk s H scope (compEnvC scope cl C X.env) fp) elt (rdE (kxOf X ex) m FW)) (hs : ∀ x, foldedSetIterable iter X.env x = pure x) (hs1 : ∀ env x, foldedSetIterable iter1 env x = pure x) :
    PE X (.ListComp elt [⟨tg, iter, ifs, 0⟩, ⟨tg1, iter1, ifs1, 0⟩] scope pos) (rdE (kxOf X ex) (mComp2 mu mi g (own.map (·.2)) t mi1 g1 vs1 t1 m) Wx) :=
  (pe_lc2 hc hN hi ok hv hg ht hi1 hg1 ht1 he hs hs1).wk fun σ H Q h => rd_compG (B := fun D σ3 H' Nx => rdT (kxOf X ex) t FW σ3 H' fun b H3 => if b = true then rdI (kxOf X ex) mi1 FW σ3 H3 fun J H4 => loopW J Nx (rdG (kxOf X ex) g1) σ3 vs1 (fun σ3 H' Nx => rdT (kxOf X ex) t1 FW σ3 H' fun b H3 => if b = true then rdE (kxOf X ex) m FW σ3 H3 fun y H4 => ∃ acc, H4 D = some (.lst acc) ∧ acc.length < sizeLine ∧ Nx (upd H4 D (.lst (acc ++ [y]))) else Nx H3) H4 else Nx H3) hgx (fun D T0 nT => body_inner nT hgx1 (body_plain nT)) (by decide) h
end

/-! ## statements -/
inductive RS where
  | nx (env : Env') (st : Sto)
  | ret (d : D) (st : Sto)
  | brk (env : Env') (st : Sto)
  | cnt (env : Env') (st : Sto)
  | exc (c : Nat) (env : Env') (st : Sto)
  | bad
abbrev MS := Env' → Sto → RS
def PostS (κ : Kx) (Wx : WX) (E : Ends) (w : Wd) (r : RS) : Prop := match r with
  | .nx env st => ∀ w' σ' H', w.Le w' → HoldK κ w' st H' → RelE κ w' env σ' → E.nx σ' H'
  | .ret d st => ∀ w' v H', w.Le w' → HoldK κ w' st H' → RelD κ.K w' d v → E.rt v H'
  | .brk env st => ∀ w' σ' H', w.Le w' → HoldK κ w' st H' → RelE κ w' env σ' → E.bk σ' H'
  | .cnt env st => ∀ w' σ' H', w.Le w' → HoldK κ w' st H' → RelE κ w' env σ' → E.ct σ' H'
  | .exc c env st => ∀ w' σ' H', w.Le w' → HoldK κ w' st H' → RelE κ w' env σ' → Wx (.ref (κ.ex c)) none σ' H'
  | .bad => False
def rdS (κ : Kx) (m : MS) (Wx : WX) : TS := fun E σ H => ∃ w env st, RelE κ w env σ ∧ HoldK κ w st H ∧ PostS κ Wx E w (m env st)
/-- an expression within a statement -/
def sbnd {α : Type} (m : M α) (env : Env') (f : α → Sto → RS) : Sto → RS := fun st => match m st with
  | .ok a st' => f a st'
  | .exc c st' => .exc c env st'
  | .bad => .bad
section
variable {X : Cx} {κ : Kx} {Wx : WX} {ex : Nat → Addr} {E : Ends} {σ : L2.St} {H : Hp} {w : Wd} {env : Env'} {st : Sto} {ma mb : Env' → M D} {e : Expr} {pos : Pos}
theorem PostS.anti {w1 : Wd} {r : RS} (le : w.Le w1) (h : PostS κ Wx E w r) : PostS κ Wx E w1 r := by
  cases r with
  | nx env st => exact fun w' σ' H' le' => h w' σ' H' (le.trans le')
  | ret d st => exact fun w' σ' H' le' => h w' σ' H' (le.trans le')
  | brk env st => exact fun w' σ' H' le' => h w' σ' H' (le.trans le')
  | cnt env st => exact fun w' σ' H' le' => h w' σ' H' (le.trans le')
  | exc c env st => exact fun w' σ' H' le' => h w' σ' H' (le.trans le')
  | bad => exact h
theorem PostS.bnd {α : Type} {m : M α} {f : α → Sto → RS} (hE : RelE κ w env σ) (h : PostS κ Wx E w (sbnd m env f st)) : PostG κ Wx σ w (m st) fun a st1 w1 _ => PostS κ Wx E w1 (f a st1) := by
  unfold sbnd at h
  cases q : m st with
  | ok a st' => rw [q] at h; exact fun w' H' le hh => PostS.anti le h
  | exc c st' => rw [q] at h; exact fun w' H' le hh => h w' σ H' le hh (hE.mono le.toLc)
  | bad => rw [q] at h; exact h
theorem rd_ones {f : D → Sto → RS} (hE : RelE κ w env σ) (hH : HoldK κ w st H) (h : PostS κ Wx E w (sbnd (ma env) env f st)) :
    rdE κ ma Wx σ H fun v H1 => ∃ w1 x st1, w.Le w1 ∧ RelD κ.K w1 x v ∧ RelE κ w1 env σ ∧ HoldK κ w1 st1 H1 ∧ PostS κ Wx E w1 (f x st1) :=
  ⟨w, env, st, hE, hH, (PostS.bnd hE h).imp fun x st1 w1 H1 le hH1 hp v rv => ⟨w1, x, st1, le, rv, hE.mono le.toLc, hH1, hp⟩⟩
/-- blocks -/
def sNil : MS := fun env st => .nx env st
def sSeq (a b : MS) : MS := fun env st => match a env st with
  | .nx env' st' => b env' st'
  | r => r
theorem r_snil : PSs X [] (rdS κ sNil Wx) := pss_nil.wk fun E σ H h => by
  obtain ⟨w, env, st, hE, hH, hp⟩ := h
  exact hp w σ H (Wd.Le.refl w) hH hE
variable {s1 : Stmt} {ss : List Stmt} {a b : MS}
theorem r_scons (h1 : PS X s1 (rdS κ a Wx)) (h2 : PSs X ss (rdS κ b Wx)) : PSs X (s1 :: ss) (rdS κ (sSeq a b) Wx) := (pss_cons h1 h2).wk fun E σ H h => by
  obtain ⟨w, env, st, hE, hH, hp⟩ := h
  refine ⟨w, env, st, hE, hH, ?_⟩
  unfold sSeq at hp
  cases q : a env st with
  | nx env' st' =>
    rw [q] at hp
    exact fun w' σ' H' le hh hE' => ⟨w', env', st', hE', hh, PostS.anti le hp⟩
  | ret d st' => rw [q] at hp; exact hp
  | brk env' st' => rw [q] at hp; exact hp
  | cnt env' st' => rw [q] at hp; exact hp
  | exc c env' st' => rw [q] at hp; exact hp
  | bad => rw [q] at hp; exact hp
theorem r_spass : PS X (.Pass pos) (rdS κ sNil Wx) := ps_pass.wk fun E σ H h => by
  obtain ⟨w, env, st, hE, hH, hp⟩ := h
  exact hp w σ H (Wd.Le.refl w) hH hE
def sBrk : MS := fun env st => .brk env st
def sCnt : MS := fun env st => .cnt env st
theorem r_sbrk : PS X (.Break pos) (rdS κ sBrk Wx) := ps_break.wk fun E σ H h => by
  obtain ⟨w, env, st, hE, hH, hp⟩ := h
  exact hp w σ H (Wd.Le.refl w) hH hE
theorem r_scnt : PS X (.Continue pos) (rdS κ sCnt Wx) := ps_continue.wk fun E σ H h => by
  obtain ⟨w, env, st, hE, hH, hp⟩ := h
  exact hp w σ H (Wd.Le.refl w) hH hE
def sExp (m : Env' → M D) : MS := fun env => sbnd (m env) env fun _ st => .nx env st
theorem r_sexp (he : PE X e (rdE κ ma Wx)) (hs : swapsWith e none pos.line X.env = pure false) : PS X (.Expr e pos) (rdS κ (sExp ma) Wx) := (ps_expr he hs).wk fun E σ H h => by
  obtain ⟨w, env, st, hE, hH, hp⟩ := h
  obtain ⟨w0, env0, st0, a0, b0, c0⟩ := rd_ones hE hH hp
  refine ⟨w0, env0, st0, a0, b0, c0.imp fun d st' w' H' le hh q v rv => ?_⟩
  obtain ⟨w1, x, st1, _, _, hE1, hH1, hp1⟩ := q v rv
  exact hp1 w1 σ _ (Wd.Le.refl _) hH1 hE1
def sRet (m : Env' → M D) : MS := fun env => sbnd (m env) env fun d st => .ret d st
theorem r_sret (he : PE X e (rdE κ ma Wx)) : PS X (.Return (some e) pos) (rdS κ (sRet ma) Wx) := (ps_ret he).wk fun E σ H h => by
  obtain ⟨w, env, st, hE, hH, hp⟩ := h
  obtain ⟨w0, env0, st0, a0, b0, c0⟩ := rd_ones hE hH hp
  refine ⟨w0, env0, st0, a0, b0, c0.imp fun d st' w' H' le hh q v rv => ?_⟩
  obtain ⟨w1, x, st1, _, r1, hE1, hH1, hp1⟩ := q v rv
  exact hp1 w1 v _ (Wd.Le.refl _) hH1 r1
def sRetN : MS := fun _ st => .ret (.p .none) st
theorem r_sretn : PS X (.Return none pos) (rdS κ sRetN Wx) := ps_retN.wk fun E σ H h => by
  obtain ⟨w, env, st, hE, hH, hp⟩ := h
  exact hp w .non H (Wd.Le.refl w) hH (show Dp κ.K w.W .non .none from .non)
/-- if -/
def sIf (c : Env' → M Bool) (a b : MS) : MS := fun env => sbnd (c env) env fun k st => if k = true then a env st else b env st
theorem rd_onet {tc : Env' → M Bool} {f : Bool → Sto → RS} (hE : RelE κ w env σ) (hH : HoldK κ w st H) (h : PostS κ Wx E w (sbnd (tc env) env f st)) :
    rdT κ tc Wx σ H fun k H1 => ∃ w1 st1, w.Le w1 ∧ RelE κ w1 env σ ∧ HoldK κ w1 st1 H1 ∧ PostS κ Wx E w1 (f k st1) :=
  ⟨w, env, st, hE, hH, (PostS.bnd hE h).imp fun k st1 w1 H1 le hH1 hp => ⟨w1, st1, le, hE.mono le.toLc, hH1, hp⟩⟩
theorem r_sif {c : Expr} {sa sb : List Stmt} {tc : Env' → M Bool} (hc : PT X c (rdT κ tc Wx)) (ha : PSs X sa (rdS κ a Wx)) (hb : PSs X sb (rdS κ b Wx)) : PS X (.If c sa sb pos) (rdS κ (sIf tc a b) Wx) := (ps_if hc ha hb).wk fun E σ H h => by
  obtain ⟨w, env, st, hE, hH, hp⟩ := h
  obtain ⟨w0, env0, st0, a0, b0, c0⟩ := rd_onet hE hH hp
  refine ⟨w0, env0, st0, a0, b0, c0.imp fun k st' w' H' le hh q => ?_⟩
  obtain ⟨w1, st1, _, hE1, hH1, hp1⟩ := q
  cases k with
  | true => rw [if_pos rfl] at hp1; exact iteT ⟨w1, env, st1, hE1, hH1, hp1⟩
  | false => rw [if_neg Bool.false_ne_true] at hp1; exact iteF ⟨w1, env, st1, hE1, hH1, hp1⟩
/-- target = e -/
def sAsg (g : G) (m : Env' → M D) : MS := fun env => sbnd (m env) env fun d st => match gSet g d env with
  | some env' => .nx env' st
  | none => .bad
theorem rd_sasg {g : G} {E : Ends} {σ : L2.St} {H : Hp} (h : rdS κ (sAsg g ma) Wx E σ H) : rdE κ ma Wx σ H fun v H1 => rdG κ g v σ H1 E.nx := by
  obtain ⟨w, env, st, hE, hH, hp⟩ := h
  obtain ⟨w0, env0, st0, a0, b0, c0⟩ := rd_ones hE hH hp
  refine ⟨w0, env0, st0, a0, b0, c0.imp fun d st' w' H' le hh q v rv => ?_⟩
  obtain ⟨w1, x, st1, _, r1, hE1, hH1, hp1⟩ := q v rv
  cases q2 : gSet g x env with
  | none => rw [q2] at hp1; exact hp1.elim
  | some env' =>
    rw [q2] at hp1
    exact ⟨w1, env, st1, x, env', hE1, hH1, r1, q2, fun σ' hE' _ => hp1 w1 σ' _ (Wd.Le.refl _) hH1 hE'⟩
theorem r_sasg {g : G} {tg : Expr} (he : PE X e (rdE κ ma Wx)) (hg : PG X tg (rdG κ g)) (hs : swapsWithSole [tg] e pos.line X.env = pure false) (hw : swappedStores [tg] e X.env = pure none)
    (h1 : (assignEach [tg] X.env).map (·.2) = [assign tg X.env]) : PS X (.Assign [tg] e pos) (rdS κ (sAsg g ma) Wx) := (ps_asg he hg hs hw h1).wk fun E σ H h => rd_sasg h
theorem r_sset {i : Nat} {x : Str} {pos' : Pos} (hN : X.N.Nodup) (hi : X.N[i]? = some x) (hx : Loc X.env.scope x) (he : PE X e (rdE κ ma Wx)) (hs : swapsWith e (some (.Name x pos')) pos.line X.env = pure false) (hf : X.fn x = true ∨ X.env.scope.names.lookup x = some .local) :
    PS X (.Assign [.Name x pos'] e pos) (rdS κ (sAsg (.nm i) ma) Wx) := by
  refine (ps_set hN hi hx he hs hf).wk fun E σ H h => ?_
  have h' := rd_sasg h
  obtain ⟨w0, env0, st0, a0, b0, c0⟩ := h'
  refine ⟨w0, env0, st0, a0, b0, c0.imp fun d st' w' H' le hh q v rv => ?_⟩
  obtain ⟨w1, env1, st1, d1, env', hE, hH, r, e, q⟩ := q v rv
  unfold gSet at e
  split at e
  · rename_i hi'
    cases e
    exact q _ (hE.set hi' r) fun vs hv => wipe_set (hv i (by simp [gIx]))
  · cases e
/-- a, b = x, y -/
def sPar (is : List Nat) (ms : Env' → M (List D)) : MS := fun env => sbnd (ms env) env fun ds st => if ds.length = is.length ∧ (∀ i ∈ is, i < env.length) then .nx ((is.zip ds).foldl (fun e q => e.set q.1 (some q.2)) env) st else .bad
theorem r_spar2 {i j : Nat} {x y : Str} {c d : Expr} {ms : Env' → M (List D)} {px py pt : Pos} {kt k2 pt2} (hc : X.calm = true) (hN : X.N.Nodup) (hi : X.N[i]? = some x) (hj : X.N[j]? = some y) (hij : i ≠ j)
    (hx : X.env.scope.names.lookup x = some .local) (hy : X.env.scope.names.lookup y = some .local) (ha : PA X [c, d] (rdA κ ms Wx))
    (hw : swappedStores [.Tuple [.Name x px, .Name y py] kt pt] (.Tuple [c, d] k2 pt2) X.env = pure (some [x, y]))
    (hs : swapsWithSole [.Tuple [.Name x px, .Name y py] kt pt] (.Tuple [c, d] k2 pt2) pos.line X.env = pure false) :
    PS X (.Assign [.Tuple [.Name x px, .Name y py] kt pt] (.Tuple [c, d] k2 pt2) pos) (rdS κ (sPar [i, j] ms) Wx) := (ps_par hc hN hi hj hij hx hy ha hw hs).wk fun E σ H h => by
  obtain ⟨w, env, st, hE, hH, hp⟩ := h
  refine ⟨w, env, st, hE, hH, (PostS.bnd hE hp).imp fun ds st1 w1 H1 le hH1 hp1 vs rl => ?_⟩
  split at hp1
  · rename_i hc
    obtain ⟨hl, hlt⟩ := hc
    cases rl with
    | nil => cases hl
    | cons r1 r2 =>
      cases r2 with
      | nil => cases hl
      | cons r2 r3 =>
        cases r3 with
        | nil =>
          refine ⟨_, _, rfl, hp1 w1 _ _ (Wd.Le.refl _) hH1 ?_⟩
          have hE1 := hE.mono le.toLc
          exact (hE1.set (hlt i (by simp)) r1).set (by simpa using hlt j (by simp)) r2
        | cons _ _ => cases hl
  · exact hp1.elim
theorem r_spar3 {i j l : Nat} {x y z : Str} {c d f : Expr} {ms : Env' → M (List D)} {px py pz pt : Pos} {kt k2 pt2} (hc : X.calm = true) (hN : X.N.Nodup) (hi : X.N[i]? = some x) (hj : X.N[j]? = some y) (hl : X.N[l]? = some z) (hij : i ≠ j) (hil : i ≠ l) (hjl : j ≠ l)
    (hx : X.env.scope.names.lookup x = some .local) (hy : X.env.scope.names.lookup y = some .local) (hz : X.env.scope.names.lookup z = some .local) (ha : PA X [c, d, f] (rdA κ ms Wx))
    (hw : swappedStores [.Tuple [.Name x px, .Name y py, .Name z pz] kt pt] (.Tuple [c, d, f] k2 pt2) X.env = pure (some [x, y, z]))
    (hs : swapsWithSole [.Tuple [.Name x px, .Name y py, .Name z pz] kt pt] (.Tuple [c, d, f] k2 pt2) pos.line X.env = pure false) :
    PS X (.Assign [.Tuple [.Name x px, .Name y py, .Name z pz] kt pt] (.Tuple [c, d, f] k2 pt2) pos) (rdS κ (sPar [i, j, l] ms) Wx) := (ps_par3 hc hN hi hj hl hij hil hjl hx hy hz ha hw hs).wk fun E σ H h => by
  obtain ⟨w, env, st, hE, hH, hp⟩ := h
  refine ⟨w, env, st, hE, hH, (PostS.bnd hE hp).imp fun ds st1 w1 H1 le hH1 hp1 vs rl => ?_⟩
  split at hp1
  · rename_i hc
    obtain ⟨hl, hlt⟩ := hc
    cases rl with
    | nil => cases hl
    | cons r1 r2 =>
      cases r2 with
      | nil => cases hl
      | cons r2 r3 =>
        cases r3 with
        | nil => cases hl
        | cons r3 r4 =>
          cases r4 with
          | nil =>
            refine ⟨_, _, _, rfl, hp1 w1 _ _ (Wd.Le.refl _) hH1 ?_⟩
            have hE1 := hE.mono le.toLc
            exact ((hE1.set (hlt i (by simp)) r1).set (by simpa using hlt j (by simp)) r2).set (by simpa using hlt l (by simp)) r3
          | cons _ _ => cases hl
  · exact hp1.elim
/-- x op= e, of ints and the rest -/
def sAug (i : Nat) (g : Fn2) (m : Env' → M D) : MS := fun env => sbnd (bnd (mVar i env) fun x => bnd (m env) fun y => lft (g x y)) env fun d st => if i < env.length then .nx (env.set i (some d)) st else .bad
theorem r_saug {i : Nat} {x : Str} {op : Operator} {g : Fn2} {pos' : Pos} (hN : X.N.Nodup) (hi : X.N[i]? = some x) (hx : Loc X.env.scope x) (he : PE X e (rdE κ ma Wx)) (ho : PIp X op (rd2 κ g)) (hf : X.fn x = true ∨ X.env.scope.names.lookup x = some .local) :
    PS X (.AugAssign (.Name x pos') op e pos) (rdS κ (sAug i g ma) Wx) := (ps_aug hN hi hx he ho hf).wk fun E σ H h => by
  obtain ⟨w, env, st, hE, hH, hp⟩ := h
  have hp1 := PostS.bnd hE hp
  have hp2 := PostG.bnd hp1
  unfold mVar opt at hp2
  cases q : env[i]?.bind id with
  | none => rw [q] at hp2; exact hp2.elim
  | some d =>
    rw [q] at hp2
    have e : env[i]? = some (some d) := by
      cases z : env[i]? with
      | none => rw [z] at q; cases q
      | some o => rw [z] at q; have q' : o = some d := q; rw [q']
    obtain ⟨v, h1, h2⟩ := hE.2 i d e
    have hp3 := hp2 w H (Wd.Le.refl w) hH
    refine ⟨v, h1, w, env, st, hE, hH, (PostG.bnd hp3).imp fun y st1 w1 H1 le hH1 hp4 u ru => ?_⟩
    refine ⟨w1, d, y, st1, h2.mono le.toLc, ru, hH1, ?_⟩
    unfold lft at hp4
    cases q2 : g d y st1 with
    | none => rw [q2] at hp4; exact hp4.elim
    | some z =>
      obtain ⟨d', st'⟩ := z
      rw [q2] at hp4
      refine ⟨d', st', rfl, fun w' H' v' le' hh r => ?_⟩
      have hp5 := hp4 w' H' le' hh
      split at hp5
      · rename_i hlt
        exact hp5 w' _ H' (Wd.Le.refl _) hh ((hE.mono (le.trans le').toLc).set hlt r)
      · exact hp5.elim
/-- while -/
def sWhile (c : Env' → M Bool) (b : MS) : Nat → MS
  | 0 => fun _ _ => .bad
  | f + 1 => fun env => sbnd (c env) env fun k st => if k = true then (match b env st with
    | .nx env' st' => sWhile c b f env' st'
    | .cnt env' st' => sWhile c b f env' st'
    | .brk env' st' => .nx env' st'
    | r => r) else .nx env st
theorem r_swhile {c : Expr} {body : List Stmt} {tc : Env' → M Bool} {f : Nat} (hp : PassesOwn (model X.prog X.w) X.A X.env X.xe) (hc : PT X c (rdT κ tc Wx)) (hb : PSs X body (rdS κ b Wx)) : PS X (.While c body [] pos) (rdS κ (sWhile tc b f) Wx) := (ps_while hp hc hb).wk fun E σ H h => by
  obtain ⟨w, env, st, hE, hH, hp⟩ := h
  refine ⟨fun f σ H => ∃ w env st, RelE κ w env σ ∧ HoldK κ w st H ∧ PostS κ Wx E w (sWhile tc b f env st), ⟨f, w, env, st, hE, hH, hp⟩, ?_⟩
  rintro f σ H ⟨w, env, st, hE, hH, hp⟩
  cases f with
  | zero => exact hp.elim
  | succ f =>
    obtain ⟨w0, env0, st0, a0, b0, c0⟩ := rd_onet (tc := tc) hE hH hp
    refine ⟨w0, env0, st0, a0, b0, c0.imp fun k st' w' H' le hh q => ?_⟩
    obtain ⟨w1, st1, _, hE1, hH1, hp1⟩ := q
    cases k with
    | true =>
      rw [if_pos rfl] at hp1
      refine iteT ⟨fun σ H => ∃ w env st, RelE κ w env σ ∧ HoldK κ w st H ∧ PostS κ Wx E w (sWhile tc b f env st), fun σ' H' hN => ⟨f, Nat.lt_succ_self f, hN⟩, w1, env, st1, hE1, hH1, ?_⟩
      cases q2 : b env st1 with
      | nx env' st' => rw [q2] at hp1; exact fun w' σ' H' le hh hE' => ⟨w', env', st', hE', hh, PostS.anti le hp1⟩
      | cnt env' st' => rw [q2] at hp1; exact fun w' σ' H' le hh hE' => ⟨w', env', st', hE', hh, PostS.anti le hp1⟩
      | brk env' st' => rw [q2] at hp1; exact hp1
      | ret d st' => rw [q2] at hp1; exact hp1
      | exc c env' st' => rw [q2] at hp1; exact hp1
      | bad => rw [q2] at hp1; exact hp1
    | false =>
      rw [if_neg Bool.false_ne_true] at hp1
      exact iteF (hp1 w1 σ _ (Wd.Le.refl _) hH1 hE1)
/-- for -/
def forL (g : G) (b : MS) : List D → MS
  | [] => fun env st => .nx env st
  | x :: xs => fun env st => match gSet g x env with
    | none => .bad
    | some env1 => (match b env1 st with
      | .nx env' st' => forL g b xs env' st'
      | .cnt env' st' => forL g b xs env' st'
      | .brk env' st' => .nx env' st'
      | r => r)
def forS (src : Src) (g : G) (b : MS) : Nat → Nat → MS
  | 0, i => fun env st => match cont src st with
    | some ds => if ds.length ≤ i then .nx env st else .bad
    | none => .bad
  | f + 1, i => fun env st => match cont src st with
    | some ds => (match ds[i]? with
      | none => .nx env st
      | some x => (match gSet g x env with
        | none => .bad
        | some env1 => (match b env1 st with
          | .nx env' st' => forS src g b f (i + 1) env' st'
          | .cnt env' st' => forS src g b f (i + 1) env' st'
          | .brk env' st' => .nx env' st'
          | r => r)))
    | none => .bad
theorem forS_fix {xs : List D} {g : G} {b : MS} : ∀ (f i : Nat), f + i = xs.length → forS (.fix xs) g b f i = forL g b (xs.drop i)
  | 0, i, h => by
    funext env st
    have e : xs.drop i = [] := by rw [List.drop_eq_nil_iff]; omega
    rw [e]
    show (if xs.length ≤ i then RS.nx env st else .bad) = RS.nx env st
    rw [if_pos (by omega)]
  | f + 1, i, h => by
    funext env st
    have hi : i < xs.length := by omega
    rw [List.drop_eq_getElem_cons hi]
    have ih := forS_fix (xs := xs) (g := g) (b := b) f (i + 1) (by omega)
    show (match xs[i]? with
      | none => RS.nx env st
      | some x => (match gSet g x env with
        | none => .bad
        | some env1 => (match b env1 st with
          | .nx env' st' => forS (.fix xs) g b f (i + 1) env' st'
          | .cnt env' st' => forS (.fix xs) g b f (i + 1) env' st'
          | .brk env' st' => .nx env' st'
          | r => r))) = _
    rw [show xs[i]? = some xs[i] by simp [hi], ih]
    rfl
def sFor (mi : Env' → M Src) (g : G) (b : MS) : MS := fun env => sbnd (mi env) env fun src st => match srcLen src st with
  | some n => forS src g b n 0 env st
  | none => .bad
theorem r_sfor {tg iter : Expr} {body : List Stmt} {mi : Env' → M Src} {g : G} (hp : PassesOwn (model X.prog X.w) X.A X.env X.xe) (hc : X.calm = true) (hi : PI X tg iter (rdI κ mi Wx)) (hg : PG X tg (rdG κ g)) (hb : PSs X body (rdS κ b Wx))
    (hs : ∀ x, foldedSetIterable iter X.env x = pure x) : PS X (.For tg iter body [] pos) (rdS κ (sFor mi g b) Wx) := (ps_for hp hc hi hg hb hs).wk fun E σ H h => by
  obtain ⟨w, env, st, hE, hH, hp⟩ := h
  refine ⟨w, env, st, hE, hH, (PostS.bnd hE hp).imp fun src st1 w1 H1 le1 hH1 hp1 J sv => ?_⟩
  cases qn : srcLen src st1 with
  | none => rw [qn] at hp1; exact hp1.elim
  | some n =>
    rw [qn] at hp1
    refine ⟨fun i f σ H => ∃ w env st, w1.Lc w ∧ RelE κ w env σ ∧ HoldK κ w st H ∧ PostS κ Wx E w (forS src g b f i env st), ⟨n, w1, env, st1, Wd.Lc.refl _, hE.mono le1.toLc, hH1, hp1⟩, ?_⟩
    rintro i f σ H ⟨w, env, st, lc, hE, hH, hp⟩
    have done : PostS κ Wx E w (.nx env st) → E.nx σ H := fun q => q w σ H (Wd.Le.refl w) hH hE
    cases f with
    | zero =>
      have hp' : PostS κ Wx E w (match cont src st with
        | some ds => if ds.length ≤ i then .nx env st else .bad
        | none => .bad) := hp
      cases qc : cont src st with
      | none => rw [qc] at hp'; exact hp'.elim
      | some ls =>
        rw [qc] at hp'
        simp only at hp'
        split at hp'
        · rename_i hl
          exact .inl ⟨sv.stop i w st H ls lc (fun _ _ z => nomatch z) hH qc hl, done hp'⟩
        · exact hp'.elim
    | succ f =>
      have hp' : PostS κ Wx E w (match cont src st with
        | some ds => (match ds[i]? with
          | none => .nx env st
          | some x => (match gSet g x env with
            | none => .bad
            | some env1 => (match b env1 st with
              | .nx env' st' => forS src g b f (i + 1) env' st'
              | .cnt env' st' => forS src g b f (i + 1) env' st'
              | .brk env' st' => .nx env' st'
              | r => r)))
        | none => .bad) := hp
      cases qc : cont src st with
      | none => rw [qc] at hp'; exact hp'.elim
      | some ls =>
        rw [qc] at hp'
        simp only at hp'
        cases qi : ls[i]? with
        | none =>
          rw [qi] at hp'
          exact .inl ⟨sv.stop i w st H ls lc (fun _ _ z => nomatch z) hH qc (List.getElem?_eq_none_iff.mp qi), done hp'⟩
        | some x =>
          rw [qi] at hp'
          simp only at hp'
          have hli : i < ls.length := (List.getElem?_eq_some_iff.mp qi).1
          refine .inr ⟨sv.go i w st H ls lc (fun _ _ z => nomatch z) hH qc hli, fun σ' H' => ∃ w env st, w1.Lc w ∧ RelE κ w env σ' ∧ HoldK κ w st H' ∧ PostS κ Wx E w (forS src g b f (i + 1) env st), fun σ' H' hN => ⟨f, Nat.lt_succ_self f, hN⟩, fun v H' hy => ?_⟩
          obtain ⟨w2, le2, hH2, rx⟩ := sv.yld i w st H H' ls x v lc (fun _ _ z => nomatch z) hH qc qi hy
          cases qg : gSet g x env with
          | none => rw [qg] at hp'; exact hp'.elim
          | some env1 =>
            rw [qg] at hp'
            simp only at hp'
            refine ⟨w2, env, st, x, env1, hE.mono le2.toLc, hH2, rx, qg, fun σ3 hE3 _ => ⟨w2, env1, st, hE3, hH2, ?_⟩⟩
            have hp3 := PostS.anti le2 hp'
            have lc2 := lc.trans le2.toLc
            cases q2 : b env1 st with
            | nx env' st' => rw [q2] at hp3; exact fun w' σ' H' le hh hE' => ⟨w', env', st', lc2.trans le.toLc, hE', hh, PostS.anti le hp3⟩
            | cnt env' st' => rw [q2] at hp3; exact fun w' σ' H' le hh hE' => ⟨w', env', st', lc2.trans le.toLc, hE', hh, PostS.anti le hp3⟩
            | brk env' st' => rw [q2] at hp3; exact hp3
            | ret d st' => rw [q2] at hp3; exact hp3
            | exc c env' st' => rw [q2] at hp3; exact hp3
            | bad => rw [q2] at hp3; exact hp3
end
end Fw

set_option maxRecDepth 100000
set_option maxHeartbeats 4000000
namespace Fw
open PySem PySem.Spec PyProof.Rows L2

/-! ## exceptions -/
structure ExcF (X : Cx) (x : Str) (C : Addr) : Prop where
  g : X.mg x = some (.ref C)
  k : PySem.W.keepIn X.K (.ref C) = true
  e : PySem.W.excIn X.K C He.veBase "ValueError.__new__" = true
  r : Raises X (.ref C)
section
variable {X : Cx} {κ : Kx} {Wx : WX} {ex : Nat → Addr} {C : Addr} {x : Str} {pos p pos' : Pos}
/-- X(), without arguments -/
theorem pmk_none (F : ExcF X x C) (hg : Gl X x) (hdb : (x == ("__debug__" : Str)) = false) : PMk X (.Call (.Name x p) [] [] pos) (fun _ H Q => Q (.ref C) none H) := by
  intro pins s σ H Q I h
  refine wpAny_Call_Name_kw (ld_glob I hg F.g ?_ hdb)
  refine PySem.W.callWith_K0 I.kIn F.k ?_
  obtain ⟨bm, N, nm, qn, bs, hdct, sn, sub, ab, col, dd, k0, k1, k2, k3, k5, mN, hC, hN, hni, T⟩ := exc_obj I.kIn F.e
  refine wpAny_call_exc_subT PySem.F.excBase_ValueError T hC hN hni (fun h' e hm => ?_) (by show 0 ≤ sizeLine; exact Nat.zero_le _)
  exact mk_of I hm F.r h (I.hok.gone hm.new)
def sRaise (c : Nat) : MS := fun env st => .exc c env st
theorem r_sraise {c : Nat} (hc : X.calm = true) (tk : Takes X Wx) (F : ExcF X x (ex c)) (hg : Gl X x) (hdb : (x == ("__debug__" : Str)) = false) : PS X (.Raise (some (.Call (.Name x p) [] [] pos')) none pos) (rdS (kxOf X ex) (sRaise c) Wx) :=
  (ps_raise hc tk (pmk_none F hg hdb)).wk fun E σ H h => by
    obtain ⟨w, env, st, hE, hH, hp⟩ := h
    exact hp w σ H (Wd.Le.refl w) hH hE
/-- try: .. except X: .. -/
def noexcS (m : MS) : MS := fun env st => match m env st with
  | .exc _ _ _ => .bad
  | r => r
def sTry (body : MS) (isa : Nat → Option Bool) (hd : MS) : MS := fun env st => match body env st with
  | .exc c env' st' => (match isa c with
    | some true => noexcS hd env' st'
    | some false => .exc c env' st'
    | none => .bad)
  | r => r
theorem PostS.noexc {E : Ends} {w : Wd} {m : MS} {env : Env'} {st : Sto} (h : PostS κ Wx E w (noexcS m env st)) : PostS κ FW E w (m env st) := by
  unfold noexcS at h
  cases q : m env st with
  | exc c e s => rw [q] at h; exact h.elim
  | nx e s => rw [q] at h; exact h
  | ret d s => rw [q] at h; exact h
  | brk e s => rw [q] at h; exact h
  | cnt e s => rw [q] at h; exact h
  | bad => rw [q] at h; exact h
theorem r_stry {body suite : List Stmt} {b0 : Stmt} {np hpos : Pos} {mb mh : MS} {isa : Nat → Option Bool} (hs : X.stack = X.env :: X.outer) (hf : X.env.frame = some X.env.locals) (hc : Names X x (.ref C)) (tk : Takes X Wx) (hx : ∀ c b, isa c = some b → PySem.W.exmOne X.K (.ref (ex c)) (.ref C) = some b)
    (hb : ∀ (W : WX) (pn : List (Addr × Obj)) (xe : Value → Shared → Prop), Takes (X.tr pn xe) W → PassesOwn (model X.prog X.w) X.A X.env xe → PSs (X.tr pn xe) body (rdS (kxOf X ex) mb W))
    (hsu : ∀ (a : Addr) (pn : List (Addr × Obj)), PSs (X.suite a pn) (b0 :: suite) (rdS (kxOf X ex) mh FW)) :
    PS X (.Try body [.ExceptHandler (some (.Name x np)) none (b0 :: suite) hpos] [] [] pos) (rdS (kxOf X ex) (sTry mb isa mh) Wx) :=
  (ps_try_only (tb := fun W => rdS (kxOf X ex) mb W) (ts := fun _ _ _ => rdS (kxOf X ex) mh FW) hs hf hc tk hb (fun a oe cls d pn _ _ => hsu a _)).wk fun E σ H h => by
    obtain ⟨w, env, st, hE, hH, hp⟩ := h
    refine ⟨w, env, st, hE, hH, ?_⟩
    unfold sTry at hp
    cases q : mb env st with
    | exc c env' st' =>
      rw [q] at hp
      simp only at hp
      intro w' σ' H' le hh hE'
      cases qi : isa c with
      | none => rw [qi] at hp; exact hp.elim
      | some b =>
        rw [qi] at hp
        refine ⟨b, hx c b qi, fun hb a _ => ?_, fun hb => ?_⟩
        · subst hb
          exact ⟨w', env', st', hE', hh, PostS.noexc (PostS.anti le hp)⟩
        · subst hb
          exact hp w' σ' H' le hh hE'
    | nx e s => rw [q] at hp; exact hp
    | ret d s => rw [q] at hp; exact hp
    | brk e s => rw [q] at hp; exact hp
    | cnt e s => rw [q] at hp; exact hp
    | bad => rw [q] at hp; exact hp
end

/-! ## methods of mutable lists -/
section
variable {X : Cx} {κ : Kx} {Wx : WX} {ex : Nat → Addr} {σ : L2.St} {H : Hp} {mo ma mi me : Env' → M D} {ms : Env' → M (List D)} {o e i value : Expr} {es : List Expr} {pos apos cpos pos' : Pos}
def isLst (d : D) (st : Sto) : Bool := match d with
  | .loc n => (match st[n]? with
    | some (.lst _) => true
    | _ => false)
  | _ => false
/-- o.m(..): the receiver is looked at first -/
def mMth (mo : Env' → M D) (ms : Env' → M (List D)) (g : D → List D → Sto → Option (D × Sto)) : Env' → M D := fun env => bnd (mo env) fun o st => if isLst o st = true then bnd (ms env) (fun xs => lft (g o xs)) st else .bad
theorem isLst_ok {d : D} {w : Wd} {st : Sto} {v : V} (hH : HoldK κ w st H) (r : RelD κ.K w d v) (h : isLst d st = true) : tyV κ.K "list" v H := by
  unfold isLst at h
  split at h
  · rename_i n
    obtain ⟨a, rfl, ha⟩ := r
    split at h
    · rename_i ds q
      obtain ⟨o, ho, vs, rfl, rl⟩ := hH.obs n a _ ha q
      exact .inl ⟨rfl, vs, SqL.of ho⟩
    · cases h
  · cases h
/-- a method's reading -/
def rdM (κ : Kx) (g : D → List D → Sto → Option (D × Sto)) : V → List V → Hp → VK → Prop := fun v vs H Q => ∃ w x xs st, RelD κ.K w x v ∧ RelL κ.K w xs vs ∧ HoldK κ w st H ∧ Fin κ w (g x xs st) Q
theorem MtM.wk {id : String} {r r' : V → List V → Hp → VK → Prop} (h : MtM X id r) (q : ∀ v vs H Q, r' v vs H Q → r v vs H Q) : MtM X id r' := fun pins s σ H x vs v us Q I rx rv hw => h pins s σ H x vs v us Q I rx rv (q _ _ _ _ hw)
theorem r_mth {id : String} {name : Str} {g : D → List D → Sto → Option (D × Sto)} (pa : PlainAttrs "list") (slot : Slot "list" name id) (hty : typeOf (.builtin id) = pure (.type "method_descriptor")) (hm : MtM X id (rdM (kxOf X ex) g)) (ho : PE X o (rdE (kxOf X ex) mo Wx)) (ha : PA X (e :: es) (rdA (kxOf X ex) ms Wx))
    (hbase : attributeBase o name X.env (eval o X.env) = eval o X.env)
    (hfew : ((backTo cpos (starEach (e :: es) X.env)).all (fun x => !x.1) && (backToKw cpos (keywordEach [] X.env)).all (fun x => x.1.isSome)
      && decide ((e :: es).length + ([] : List Keyword).length + (if ([] : List Keyword).isEmpty then 0 else 1) < 30)) = true)
    (hline : (apos.endLine == cpos.line) = true) (hs : starEach (e :: es) X.env = (false, eval e X.env) :: starEach es X.env) (hplain : (backTo cpos (starEach es X.env)).any (·.1) = false) :
    PE X (.Call (.Attribute o name apos) (e :: es) [] cpos) (rdE (kxOf X ex) (mMth mo ms g) Wx) :=
  (pe_bm pa slot hty hm ho ha hbase hfew hline hs hplain).wk fun σ H Q h => by
    obtain ⟨w, env, st, hE, hH, hp⟩ := h
    obtain ⟨w0, env0, st0, a0, b0, c0⟩ := rd_one (f := fun o st => if isLst o st = true then bnd (ms env) (fun xs => lft (g o xs)) st else .bad) hE hH hp
    refine ⟨w0, env0, st0, a0, b0, c0.imp fun d st' w' H' le hh q v rv => ?_⟩
    obtain ⟨w1, x, st1, _, r1, hE1, hH1, hp1⟩ := q v rv
    split at hp1
    · rename_i hl
      exact ⟨isLst_ok (κ := kxOf X ex) hH1 r1 hl, w1, env, st1, hE1, hH1, (PostG.bnd hp1).imp fun xs st2 w2 H2 le2 hH2 hp2 vs rl => ⟨w2, x, xs, st2, r1.mono le2.toLc, rl, hH2, Fin.of hp2⟩⟩
    · exact hp1.elim
def popAtG : D → List D → Sto → Option (D × Sto) := fun o xs st => match o, xs with
  | .loc n, [.p (.int i)] => (match st[n]? with
    | some (.lst ds) => if 0 ≤ i ∧ ds.length ≤ 1000000 then (match ds[i.toNat]? with
      | some d => some (d, st.set n (.lst (ds.eraseIdx i.toNat)))
      | none => none) else none
    | _ => none)
  | _, _ => none
theorem RelL.erase {K : PySem.W.Frag} {w : Wd} : ∀ {ds : List D} {vs : List V} (k : Nat), RelL K w ds vs → RelL K w (ds.eraseIdx k) (vs.eraseIdx k)
  | _, _, _, .nil => .nil
  | _, _, 0, .cons a b => b
  | _, _, k + 1, .cons a b => .cons a (RelL.erase k b)
theorem RelL.set {K : PySem.W.Frag} {w : Wd} {d : D} {v : V} (r : RelD K w d v) : ∀ {ds : List D} {vs : List V} (k : Nat), RelL K w ds vs → RelL K w (ds.set k d) (vs.set k v)
  | _, _, _, .nil => .nil
  | _, _, 0, .cons a b => .cons r b
  | _, _, k + 1, .cons a b => .cons a (RelL.set r k b)
theorem wf_at {w : Wd} {st : Sto} {n : Nat} {b : Ob} (hH : HoldK κ w st H) (q : st[n]? = some b) : Wf1 n b := hH.wf n b q
theorem m_popAt : MtR X "list.pop" (rdM (kxOf X ex) popAtG) := by
  intro pins s σ H x vs v us Q I rx rv h
  obtain ⟨w, d, xs, st, r1, rl, hH, d', st', e, fin⟩ := h
  unfold popAtG at e
  split at e
  · rename_i n i
    split at e
    · rename_i ds q
      split at e
      · rename_i hi
        split at e
        · rename_i y qy
          cases e
          obtain ⟨a, rfl, ha⟩ := r1
          obtain ⟨o, ho, vs', rfl, rl'⟩ := hH.obs n a _ ha q
          cases rl with
          | cons r2 r3 =>
            cases r3
            have r2' : Dp X.K w.W _ (.int i) := r2
            have z := Dp.int_inv r2'
            subst z
            obtain ⟨u, hu, ru⟩ := rl'.get qy
            have hl : i.toNat < ds.length := (List.getElem?_eq_some_iff.mp qy).1
            have hl' : i.toNat < vs'.length := by rw [← rl'.length]; exact hl
            refine mt_popAt pins s σ H _ _ v us Q I rx rv ⟨a, vs', i, i.toNat, u, rfl, rfl, ho, by omega, by omega, ?_, hu, ?_⟩
            · exact seqIndex_of hi.1 (by omega)
            · have hw : Wf1 n (.lst (ds.eraseIdx i.toNat)) := fun j m => (wf_at hH q : Wf1 n (.lst ds)) j (List.mem_of_mem_eraseIdx m)
              exact fin w _ u (Wd.Le.refl w) (Hold.write hH ha ⟨_, rfl, RelL.erase i.toNat rl'⟩ hw) ru
        · cases e
      · cases e
    · cases e
  · cases e
def okIn (n : Nat) : D → Bool
  | .p _ => true
  | .loc j => decide (j < n)
def appendG : D → List D → Sto → Option (D × Sto) := fun o xs st => match o, xs with
  | .loc n, [x] => (match st[n]? with
    | some (.lst ds) => if ds.length ≤ 1000000 ∧ okIn n x = true then some (.p .none, st.set n (.lst (ds ++ [x]))) else none
    | _ => none)
  | _, _ => none
theorem m_append : MtR X "list.append" (rdM (kxOf X ex) appendG) := by
  intro pins s σ H x vs v us Q I rx rv h
  obtain ⟨w, d, xs, st, r1, rl, hH, d', st', e, fin⟩ := h
  unfold appendG at e
  split at e
  · rename_i n y
    split at e
    · rename_i ds q
      split at e
      · rename_i hi
        cases e
        obtain ⟨a, rfl, ha⟩ := r1
        obtain ⟨o, ho, vs', rfl, rl'⟩ := hH.obs n a _ ha q
        cases rl with
        | cons r2 r3 =>
          cases r3
          refine mt_append pins s σ H _ _ v us Q I rx rv ⟨a, vs', _, rfl, rfl, ho, by rw [← rl'.length, sizeLine_eq]; omega, ?_⟩
          have hw : Wf1 n (.lst (ds ++ [y])) := fun j m => by
            rcases List.mem_append.mp m with m | m
            · exact (wf_at hH q : Wf1 n (.lst ds)) j m
            · simp at m
              subst m
              exact of_decide_eq_true hi.2
          exact fin w _ .non (Wd.Le.refl w) (Hold.write hH ha ⟨_, rfl, RelL.app rl' (.cons r2 .nil)⟩ hw) .non
      · cases e
    · cases e
  · cases e

/-! ## o[i] = e -/
def setG : D → D → D → Sto → Option Sto := fun o i v st => match o, i with
  | .loc n, .p (.int k) => (match st[n]? with
    | some (.lst ds) => if okIn n v = true then (match ixN ds.length k with
        | some j => some (st.set n (.lst (ds.set j v)))
        | none => none) else none
    | _ => none)
  | _, _ => none
def sSetI (mo mi me : Env' → M D) : MS := fun env => sbnd (bnd (me env) fun v => bnd (mo env) fun o => bnd (mi env) fun i => fun st => match setG o i v st with
  | some st' => .ok () st'
  | none => .bad) env fun _ st => .nx env st
theorem r_sseti (he : PE X e (rdE (kxOf X ex) me Wx)) (ho : PE X o (rdE (kxOf X ex) mo Wx)) (hi : PE X i (rdE (kxOf X ex) mi Wx)) (hs : swapsWithSole [.Subscript o i pos'] e pos.line X.env = pure false) (hw : swappedStores [.Subscript o i pos'] e X.env = pure none)
    (h1 : (assignEach [.Subscript o i pos'] X.env).map (·.2) = [assign (.Subscript o i pos') X.env]) (ha : ∀ v, assign (.Subscript o i pos') X.env v = (do
      let ov ← holding [v] (eval o X.env)
      let iv ← holding [v, ov] (eval i X.env)
      standAt pos'
      holding [v, ov, iv] (setItem ov iv v)
      release [v, ov, iv] [])) : PS X (.Assign [.Subscript o i pos'] e pos) (rdS (kxOf X ex) (sSetI mo mi me) Wx) :=
  (ps_asg he (pg_sub ho hi set_list ha) hs hw h1).wk fun E σ H h => by
    obtain ⟨w, env, st, hE, hH, hp⟩ := h
    have hp1 := PostG.bnd (PostS.bnd hE hp)
    refine ⟨w, env, st, hE, hH, hp1.imp fun v st1 w1 H1 le1 hH1 hp2 vv rv => ?_⟩
    have hE1 := hE.mono le1.toLc
    refine ⟨w1, env, st1, hE1, hH1, (PostG.bnd hp2).imp fun ov st2 w2 H2 le2 hH2 hp3 vo ro => ?_⟩
    have hE2 := hE1.mono le2.toLc
    refine ⟨w2, env, st2, hE2, hH2, (PostG.bnd hp3).imp fun iv st3 w3 H3 le3 hH3 hp4 vi ri => ?_⟩
    have hE3 := hE2.mono le3.toLc
    have ro3 := ro.mono le3.toLc
    have rv3 := rv.mono (le2.trans le3).toLc
    cases q : setG ov iv v st3 with
    | none => rw [q] at hp4; exact hp4.elim
    | some st4 =>
      rw [q] at hp4
      simp only at hp4
      unfold setG at q
      split at q
      · rename_i n k
        split at q
        · rename_i ds qd
          split at q
          · rename_i hv
            split at q
            · rename_i j qj
              cases q
              obtain ⟨a, rfl, hla⟩ := ro3
              obtain ⟨ob, hob, vs', rfl, rl'⟩ := hH3.obs n a _ hla qd
              have ri' : Dp X.K w3.W vi (.int k) := ri
              have z := Dp.int_inv ri'
              subst z
              refine ⟨a, vs', k, j, rfl, rfl, hob, by rw [← rl'.length]; exact qj, ?_⟩
              have hw : Wf1 n (.lst (ds.set j v)) := fun j' m => by
                rcases List.mem_or_eq_of_mem_set m with m | m
                · exact (wf_at hH3 qd : Wf1 n (.lst ds)) j' m
                · subst m
                  exact of_decide_eq_true hv
              have hI : HoldK (kxOf X ex) w3 (st3.set n (.lst (ds.set j v))) (upd H3 a (.lst (vs'.set j vv))) := Hold.write hH3 hla ⟨_, rfl, RelL.set rv3 j rl'⟩ hw
              exact hp4 w3 _ (Wd.Le.refl w3) hI w3 σ _ (Wd.Le.refl w3) hI hE3
            · cases q
          · cases q
        · cases q
      · cases q
end
end Fw

set_option maxRecDepth 100000
set_option maxHeartbeats 4000000
namespace Fw
open PySem PySem.Spec PyProof.Rows L2

/-! ## rows of ints in order, each once -/
def ltI : List Int → List Int → Bool
  | [], [] => false
  | [], _ :: _ => true
  | _ :: _, [] => false
  | a :: r, b :: q => decide (a < b) || (decide (a = b) && ltI r q)
def ins (x : List Int) : List (List Int) → List (List Int)
  | [] => [x]
  | y :: r => if ltI x y = true then x :: y :: r else if x = y then y :: r else y :: ins x r
def canon (xs : List (List Int)) : List (List Int) := xs.foldr ins []
theorem ltI_irr : ∀ a : List Int, ltI a a = false
  | [] => rfl
  | a :: r => by simp [ltI, ltI_irr r]
theorem ltI_trans : ∀ {a b c : List Int}, ltI a b = true → ltI b c = true → ltI a c = true
  | [], [], _, h, _ => by simp [ltI] at h
  | [], _ :: _, [], _, h => by simp [ltI] at h
  | [], _ :: _, _ :: _, _, _ => rfl
  | _ :: _, [], _, h, _ => by simp [ltI] at h
  | _ :: _, _ :: _, [], _, h => by simp [ltI] at h
  | a :: r, b :: q, c :: t, h, k => by
    simp only [ltI, Bool.or_eq_true, Bool.and_eq_true, decide_eq_true_eq] at h k ⊢
    rcases h with h | ⟨h, h2⟩ <;> rcases k with k | ⟨k, k2⟩
    · left; omega
    · left; omega
    · left; omega
    · exact .inr ⟨by omega, ltI_trans h2 k2⟩
theorem ltI_tri : ∀ {a b : List Int}, ltI a b = false → a ≠ b → ltI b a = true
  | [], [], _, h => absurd rfl h
  | [], _ :: _, h, _ => by simp [ltI] at h
  | _ :: _, [], _, _ => rfl
  | a :: r, b :: q, h, k => by
    simp only [ltI, Bool.or_eq_false_iff, Bool.and_eq_false_iff, decide_eq_false_iff_not] at h
    simp only [ltI, Bool.or_eq_true, Bool.and_eq_true, decide_eq_true_eq]
    obtain ⟨h1, h2⟩ := h
    by_cases e : a = b
    · subst e
      rcases h2 with h2 | h2
      · exact absurd rfl h2
      · exact .inr ⟨rfl, ltI_tri h2 fun z => k (by rw [z])⟩
    · left; omega
theorem mem_ins {x z : List Int} : ∀ {l : List (List Int)}, z ∈ ins x l ↔ z = x ∨ z ∈ l
  | [] => by simp [ins]
  | y :: r => by
    unfold ins
    split
    · simp
    · split
      · rename_i e
        subst e
        simp
      · rw [List.mem_cons, mem_ins, List.mem_cons]
        constructor
        · rintro (h | h | h)
          · exact .inr (.inl h)
          · exact .inl h
          · exact .inr (.inr h)
        · rintro (h | h | h)
          · exact .inr (.inl h)
          · exact .inl h
          · exact .inr (.inr h)
theorem mem_canon {z : List Int} : ∀ {l : List (List Int)}, z ∈ canon l ↔ z ∈ l
  | [] => by simp [canon]
  | y :: r => by
    show z ∈ ins y (canon r) ↔ _
    rw [mem_ins, mem_canon, List.mem_cons]
abbrev Asc (l : List (List Int)) : Prop := l.Pairwise fun a b => ltI a b = true
theorem asc_ins {x : List Int} : ∀ {l : List (List Int)}, Asc l → Asc (ins x l)
  | [], _ => List.pairwise_singleton _ _
  | y :: r, h => by
    obtain ⟨h1, h2⟩ := List.pairwise_cons.mp h
    unfold ins
    split
    · rename_i hx
      refine List.pairwise_cons.mpr ⟨fun z hz => ?_, h⟩
      rcases List.mem_cons.mp hz with e | hz
      · rw [e]; exact hx
      · exact ltI_trans hx (h1 z hz)
    · split
      · exact h
      · rename_i hx hne
        refine List.pairwise_cons.mpr ⟨fun z hz => ?_, asc_ins h2⟩
        rcases mem_ins.mp hz with e | hz
        · rw [e]; exact ltI_tri (by simpa using hx) hne
        · exact h1 z hz
theorem asc_canon : ∀ l : List (List Int), Asc (canon l)
  | [] => .nil
  | y :: r => asc_ins (asc_canon r)
theorem asc_uniq : ∀ {l m : List (List Int)}, Asc l → Asc m → (∀ z, z ∈ l ↔ z ∈ m) → l = m
  | [], [], _, _, _ => rfl
  | [], b :: m, _, _, h => absurd ((h b).mpr (by simp)) (by simp)
  | a :: l, [], _, _, h => absurd ((h a).mp (by simp)) (by simp)
  | a :: l, b :: m, h1, h2, h => by
    obtain ⟨a1, a2⟩ := List.pairwise_cons.mp h1
    obtain ⟨b1, b2⟩ := List.pairwise_cons.mp h2
    have e : a = b := by
      rcases List.mem_cons.mp ((h a).mp (by simp)) with e | ha
      · exact e
      · rcases List.mem_cons.mp ((h b).mpr (by simp)) with e | hb
        · exact e.symm
        · have q := ltI_trans (a1 b hb) (b1 a ha)
          rw [ltI_irr] at q
          cases q
    subst e
    have hm : ∀ z, z ∈ l ↔ z ∈ m := fun z => by
      constructor
      · intro hz
        rcases List.mem_cons.mp ((h z).mp (List.mem_cons_of_mem _ hz)) with e | q
        · subst e
          have q := a1 z hz
          rw [ltI_irr] at q
          cases q
        · exact q
      · intro hz
        rcases List.mem_cons.mp ((h z).mpr (List.mem_cons_of_mem _ hz)) with e | q
        · subst e
          have q := b1 z hz
          rw [ltI_irr] at q
          cases q
        · exact q
    rw [asc_uniq a2 b2 hm]
theorem code_ltI {B : Int} : ∀ {a b : List Int}, a.length = b.length → TS.Bd B a → TS.Bd B b → ltI a b = true → TS.code B a < TS.code B b
  | [], [], _, _, _, h => by simp [ltI] at h
  | [], _ :: _, h, _, _, _ => by simp at h
  | _ :: _, [], h, _, _, _ => by simp at h
  | a :: r, b :: q, hl, h1, h2, h => by
    have hl' : r.length = q.length := by simpa using hl
    simp only [ltI, Bool.or_eq_true, Bool.and_eq_true, decide_eq_true_eq] at h
    rcases h with h | ⟨h, k⟩
    · exact TS.code_lt hl' h1.tail h2.tail h
    · subst h
      exact (TS.code_same hl').mpr (code_ltI hl' h1.tail h2.tail k)
theorem code_canon {B : Int} {d : Nat} {L xs : List (List Int)} (hp : L.Pairwise fun a b => TS.code B a ≤ TS.code B b) (hn : L.Nodup) (hb : ∀ k ∈ L, k.length = d ∧ TS.Bd B k) (hm : ∀ z, z ∈ L ↔ z ∈ xs) : L = canon xs := by
  refine asc_uniq ?_ (asc_canon xs) fun z => (hm z).trans mem_canon.symm
  have q := hp.and hn
  refine List.Pairwise.imp_of_mem (fun {a b} ha hb' ⟨h1, h2⟩ => ?_) q
  cases e : ltI a b with
  | true => rfl
  | false =>
    have z := code_ltI (B := B) (by rw [(hb b hb').1, (hb a ha).1]) (hb b hb').2 (hb a ha).2 (ltI_tri e h2)
    omega
/-- rows of ints among the data -/
def tupI (k : List Int) : PyData := .tuple (k.map .int)
def asTI : PyData → Option (List Int)
  | .tuple xs => intsOf xs
  | _ => none
theorem asTI_eq {x : PyData} {k : List Int} (h : asTI x = some k) : x = tupI k := by
  unfold asTI at h
  split at h
  · rw [intsOf_eq h] <;> rfl
  · cases h
theorem asTI_tupI (k : List Int) : asTI (tupI k) = some k := intsOf_map k
def tis : List PyData → Option (List (List Int))
  | [] => some []
  | x :: r => match asTI x, tis r with
    | some k, some ks => some (k :: ks)
    | _, _ => none
theorem tis_eq : ∀ {xs : List PyData} {ks : List (List Int)}, tis xs = some ks → xs = ks.map tupI
  | [], ks, h => by cases h; rfl
  | x :: r, ks, h => by
    unfold tis at h
    split at h
    · rename_i k ks' h1 h2
      cases h
      rw [List.map_cons, asTI_eq h1, tis_eq h2]
    · cases h
theorem tis_map : ∀ ks : List (List Int), tis (ks.map tupI) = some ks
  | [] => rfl
  | k :: r => by
    rw [List.map_cons]
    unfold tis
    rw [asTI_tupI, tis_map r]
def okK (ks : List (List Int)) : Bool := decide (ks.length < 64) && (match ks with
  | [] => true
  | k0 :: _ => decide (1 ≤ k0.length) && ks.all fun k => decide (k.length = k0.length) && k.all fun i => decide (0 ≤ i))
theorem bd_ex : ∀ l : List Int, ∃ B : Int, ∀ m ∈ l, m < B
  | [] => ⟨0, fun m h => nomatch h⟩
  | x :: r => by
    obtain ⟨B, h⟩ := bd_ex r
    refine ⟨max B (x + 1), fun m hm => ?_⟩
    rcases List.mem_cons.mp hm with e | hm
    · subst e; omega
    · have := h m hm; omega
theorem okK_ok {ks : List (List Int)} (h : okK ks = true) : ks.length < 64 ∧ ∃ (d : Nat) (B : Int), 1 ≤ d ∧ ∀ k ∈ ks, k.length = d ∧ TS.Bd B k := by
  unfold okK at h
  rw [Bool.and_eq_true] at h
  refine ⟨of_decide_eq_true h.1, ?_⟩
  have h2 := h.2
  split at h2
  · exact ⟨1, 0, Nat.le_refl _, fun k hk => nomatch hk⟩
  · rename_i k0 r
    rw [Bool.and_eq_true, List.all_eq_true] at h2
    obtain ⟨B, hB⟩ := bd_ex (k0 :: r).flatten
    refine ⟨k0.length, B, of_decide_eq_true h2.1, fun k hk => ?_⟩
    have q := h2.2 k hk
    rw [Bool.and_eq_true, List.all_eq_true] at q
    exact ⟨of_decide_eq_true q.1, fun m hm => ⟨of_decide_eq_true (q.2 m hm), hB m (List.mem_flatten.mpr ⟨k, hk, hm⟩)⟩⟩
end Fw

set_option maxRecDepth 100000
set_option maxHeartbeats 4000000
namespace Fw
open PySem PySem.Spec PyProof.Rows L2

/-! ## rows of ints as values -/
/-- no tuple of ints, but the empty one, stands among the text's own objects -/
def NoTup (K : PySem.W.Frag) : Prop := ∀ (a : Addr) (o : Obj) (its : Array Value) (n : Nat) (k : List Int), K.lookup a = some o → o.cls = .type "tuple" → o.data = .seq its n → Vals (k.map V.int) its.toList → k = []
section
variable {X : Cx} {κ : Kx} {w : Wd} {st : Sto} {H : Hp} {ex : Nat → Addr}
theorem trk (nt : NoTup κ.K) (hH : HoldK κ w st H) {a : Addr} {k : List Int} (hk : k ≠ []) (s : SqT κ.K w.W a (k.map V.int)) : w.W a = some (.tup (k.map V.int)) := by
  rcases s with (s | ⟨o, s⟩) | ⟨o, its, n, h1, h2, h3, _, h4⟩
  · exact s
  · exact (hH.imm a _ s).2.elim
  · exact absurd (nt a o its n k h1 h2 h3 h4) hk
theorem ints_dp {K : PySem.W.Frag} {W : Hp} : ∀ k : List Int, DpAll K W (k.map V.int) (k.map PyData.int)
  | [] => .nil
  | i :: r => .cons (.int i) (ints_dp r)
theorem rows_of {K : PySem.W.Frag} {W : Hp} : ∀ {ks : List (List Int)} {vs : List V}, DpAll K W vs (ks.map tupI) → ∃ L : List (Addr × List Int), vs = L.map (fun p => V.ref p.1) ∧ L.map (·.2) = ks ∧ ∀ p ∈ L, SqT K W p.1 (p.2.map V.int)
  | [], _, r => by cases r; exact ⟨[], rfl, rfl, fun p h => nomatch h⟩
  | k :: ks, _, r => by
    cases r with
    | cons a b =>
      obtain ⟨L, e1, e2, h⟩ := rows_of b
      obtain ⟨c, us, e3, s, d⟩ := Dp.tup_inv a
      have e4 := Dp.ints d
      subst e4
      refine ⟨(c, k) :: L, by rw [e1, e3]; rfl, by rw [List.map_cons, e2], fun p hp => ?_⟩
      rcases List.mem_cons.mp hp with z | hp
      · rw [z]; exact s
      · exact h p hp
theorem rows_to {K : PySem.W.Frag} {W : Hp} : ∀ {L : List (Addr × List Int)}, (∀ p ∈ L, SqT K W p.1 (p.2.map V.int)) → DpAll K W (L.map fun p => V.ref p.1) ((L.map (·.2)).map tupI)
  | [], _ => .nil
  | p :: r, h => .cons (.tup (h p List.mem_cons_self) (ints_dp p.2)) (rows_to fun q hq => h q (List.mem_cons_of_mem _ hq))

/-! ## sorted(d), d a dict with rows of ints as keys -/
def sortedKeys (ks : List (List Int)) : List (List Int) := canon ks
/-- the keys, if they are rows of ints -/
def intsK : List Key → Option (List Int)
  | [] => some []
  | .inl i :: r => (intsK r).map (i :: ·)
  | .inr _ :: _ => none
theorem intsK_eq : ∀ {k : List Key} {ns : List Int}, intsK k = some ns → k = ns.map Sum.inl
  | [], _, h => by cases h; rfl
  | .inl i :: r, ns, h => by
    unfold intsK at h
    cases q : intsK r with
    | none => rw [q] at h; cases h
    | some ms =>
      rw [q] at h
      cases h
      rw [List.map_cons, intsK_eq q]
  | .inr _ :: _, _, h => by cases h
theorem intsK_map : ∀ ns : List Int, intsK (ns.map Sum.inl) = some ns
  | [] => rfl
  | i :: r => by
    rw [List.map_cons]
    unfold intsK
    rw [intsK_map r]
    rfl
def dKeys : List (List Key × PyData) → Option (List (List Int))
  | [] => some []
  | q :: r => match intsK q.1, dKeys r with
    | some k, some ks => some (k :: ks)
    | _, _ => none
theorem dKeys_eq : ∀ {l : List (List Key × PyData)} {ks : List (List Int)}, dKeys l = some ks → l.map (·.1) = ks.map fun k => k.map Sum.inl
  | [], _, h => by cases h; rfl
  | q :: r, ks, h => by
    unfold dKeys at h
    split at h
    · rename_i k ks' h1 h2
      cases h
      rw [List.map_cons, List.map_cons, intsK_eq h1, dKeys_eq h2]
    · cases h
theorem kV_ints (k : List Int) : (k.map Sum.inl : List Key).map kV = k.map V.int := by
  rw [List.map_map]
  rfl
theorem kt_list {H : Hp} {kvs : List (List Key × V)} {xs : List (List Key × Addr × Value)} (r : KT H kvs xs) : ∀ {ks : List (List Int)}, kvs.map (·.1) = ks.map (fun k => k.map Sum.inl) → ∃ L : List (Addr × List Int), xs.map (fun x => x.2.1) = L.map (·.1) ∧ L.map (·.2) = ks ∧ ∀ p ∈ L, H p.1 = some (.tup (p.2.map V.int)) := by
  induction r with
  | nil =>
    intro ks h
    cases ks with
    | nil => exact ⟨[], rfl, rfl, fun p h => nomatch h⟩
    | cons _ _ => cases h
  | @cons p q ps qs h t ih =>
    intro ks e
    cases ks with
    | nil => cases e
    | cons k ks =>
      rw [List.map_cons, List.map_cons] at e
      injection e with e1 e2
      obtain ⟨L, h1, h2, h3⟩ := ih e2
      refine ⟨(q.2.1, k) :: L, by rw [List.map_cons, h1, List.map_cons], by rw [List.map_cons, h2], fun z hz => ?_⟩
      rcases List.mem_cons.mp hz with e3 | hz
      · have := h.2.1
        rw [e1, kV_ints] at this
        rw [e3]; exact this
      · exact h3 z hz
/-- sorted(d): the rows in order -/
def rSortD : List V → Hp → VK → Prop := fun xs H Q => ∃ (a : Addr) (kvs : List (List Key × V)) (ks : List (List Int)), xs = [V.ref a] ∧ H a = some (.dT kvs) ∧ kvs.map (·.1) = ks.map (fun k => k.map Sum.inl) ∧ okK ks = true ∧
  ∀ (L : List (Addr × List Int)) (p : Addr), (∀ q ∈ L, H q.1 = some (.tup (q.2.map V.int))) → L.map (·.2) = canon ks → H p = none → Q (.ref p) (upd H p (.lst (L.map fun q => V.ref q.1)))
theorem kt_keys {H : Hp} {kvs : List (List Key × V)} {xs : List (List Key × Addr × Value)} (r : KT H kvs xs) : xs.map (·.1) = kvs.map (·.1) := by
  induction r with
  | nil => rfl
  | cons h t ih => rw [List.map_cons, List.map_cons, h.1, ih]
theorem cr_sortD (hc : X.calm = true) : CallR X (.builtin "sorted") rSortD := by
  intro pins s σ H xs us Q I r h
  obtain ⟨d, kvs, ks, rfl, hd, hks, hok, q⟩ := h
  obtain ⟨u, rfl, rx⟩ := r.one
  cases rx
  obtain ⟨z, hs, xs, pr, o, es, ep, ho, hx, hdt, he, hn⟩ := (show ObjOk X.prog X.w H s.heap d (.dT kvs) from I.hok d _ hd)
  have l1 : es.size = xs.length := size_of_entries he
  have l2 : kvs.length = xs.length := Paired.length pr
  obtain ⟨L, hL1, hL2, hL3⟩ := kt_list pr hks
  obtain ⟨h64, dd, B, hd1, hB⟩ := okK_ok hok
  have lL : L.length = ks.length := by rw [← hL2, List.length_map]
  have lx : xs.length = ks.length := by
    have := congrArg List.length hL1
    rw [List.length_map, List.length_map] at this
    omega
  have hnd : (L.map (·.2)).Nodup := by
    have e2 : (kvs.map (·.1)).Nodup := by rw [← kt_keys pr]; exact hn
    rw [hks] at e2
    rw [hL2]
    exact nodup_of_map e2
  refine Calls.call_function_entry PyProof.Rows.kind_sorted PyProof.Rows.plain_sorted PyProof.Rows.entry_sorted (PyProof.Rows.args_sorted1 _) ?_
  unfold Builtin.«sorted»
  refine wpAny_bind (m := checkCount "sorted" 1 1 _) (wpAny_pure ?_)
  refine wpAny_bind (PySem.W.kdu_collect (A := X.A.in1) (kdl_raw hs hx hdt) (I.ok.hd hc) ho (by rw [sizeLine_eq]; omega) fun h' tk acc kp it => ?_)
  have ea : acc.toList = L.map fun p => Value.ref p.1 := by
    have e1 : acc.toList = xs.map fun x => Value.ref x.2.1 := by
      apply List.ext_getElem?
      intro j
      rw [List.getElem?_map]
      have hl : acc.toList.length = xs.length := by rw [Array.length_toList, it.1]; exact l1
      cases hj : acc.toList[j]? with
      | none =>
        have h1 := List.getElem?_eq_none_iff.mp hj
        rw [List.getElem?_eq_none (by omega)]
        rfl
      | some v =>
        obtain ⟨en, hen, hv⟩ := it.2 j v (by rw [← Array.getElem?_toList]; exact hj)
        have qe := entry_at he j
        rw [hen] at qe
        cases hb : xs[j]? with
        | none =>
          rw [hb] at qe
          exact nomatch (show some en = none from qe)
        | some b =>
          rw [hb] at qe
          have e2 : en = entryOfKey (tupleKind (mixKind X.prog X.w)) b := Option.some.inj qe
          rw [hv, e2]
          rfl
    have e2 : (xs.map fun x => Value.ref x.2.1) = (xs.map fun x => x.2.1).map Value.ref := by rw [List.map_map]; rfl
    rw [e1, e2, hL1, List.map_map]
    rfl
  have I1 : Inv X pins σ H { s with heap := h', toks := tk } := I.kept kp
  have hal : acc.toList.length = L.length := by rw [ea, List.length_map]
  refine wpAny_bind (wpAny_newList ?_ (by rw [hal, sizeLine_eq]; omega))
  have hoL : (h'.push (seqObj "list" acc.toList.toArray 0)).get? h'.objs.size = some (seqObj "list" acc.toList.toArray 0) := Heap.get?_push_size _ rfl
  have ti : ∀ p ∈ L, TS.TupInts (h'.push (seqObj "list" acc.toList.toArray 0)) (.ref p.1) p.2 := fun p hp =>
    (tupI_raw I1 (SqT.of (hL3 p hp))).keeps fun b ob e _ => Heap.get?_push_of_some _ e
  have tsok : TS.TupsOk (h'.push (seqObj "list" acc.toList.toArray 0)) dd B acc.toList := fun v hv => by
    rw [ea] at hv
    obtain ⟨p, hp, rfl⟩ := List.mem_map.mp hv
    have hk : p.2 ∈ ks := by rw [← hL2]; exact List.mem_map.mpr ⟨p, hp, rfl⟩
    exact ⟨p.2, ti p hp, (hB _ hk).1, (hB _ hk).2⟩
  show wpAny _ _ _ _ _ { s with heap := h'.push (seqObj "list" acc.toList.toArray 0), toks := tk }
  refine wpAny_bind (wpAny_holding (TS.call_sort_tups (s := { s with heap := h'.push (seqObj "list" acc.toList.toArray 0), toks := tk }) hoL (by rw [hal]; omega) hd1 tsok fun out o1 o2 => ?_))
  obtain ⟨L', eL', pL'⟩ : ∃ L' : List (Addr × List Int), out.toList = L'.map (fun p => Value.ref p.1) ∧ L'.Perm L := by
    have hp : out.toList.Perm (L.map fun p => Value.ref p.1) := by rw [ea] at o1; exact o1
    have inj : ∀ x ∈ L, ∀ y ∈ L, Value.ref x.1 = Value.ref y.1 → x = y := fun x hx y hy e => by
      have e1 : x.1 = y.1 := by injection e
      have a1 := (ti x hx).ints
      have a2 := (ti y hy).ints
      rw [e1] at a1
      exact Prod.ext e1 (a1.symm.trans a2)
    clear o2
    generalize out.toList = l at hp
    clear ea hal hoL ti tsok lL lx hL1 hL2 hL3 hnd q
    induction l generalizing L with
    | nil =>
      have := hp.length_eq
      have e : L = [] := List.length_eq_zero_iff.mp (by simpa using this.symm)
      subst e
      exact ⟨[], rfl, .refl _⟩
    | cons v r ih =>
      obtain ⟨x, hx, rfl⟩ := List.mem_map.mp (hp.mem_iff.mp List.mem_cons_self)
      have pe : L.Perm (x :: L.erase x) := List.perm_cons_erase hx
      have hp2 : r.Perm ((L.erase x).map fun p => Value.ref p.1) := by
        have := hp.trans (pe.map _)
        exact List.Perm.cons_inv this
      obtain ⟨L', e1, e2⟩ := ih (L := L.erase x) (fun a ha b hb e => inj a (List.mem_of_mem_erase ha) b (List.mem_of_mem_erase hb) e) hp2
      exact ⟨x :: L', by rw [e1, List.map_cons], (e2.cons x).trans pe.symm⟩
  obtain ⟨c, hc2⟩ := PyProof.Rows.sortedHeap_at (vs := acc.toList) (out := out) hoL
  have pw : (L'.map (·.2)).Pairwise fun a b => TS.code B a ≤ TS.code B b := by
    rw [eL'] at o2
    refine List.pairwise_map.mpr (List.Pairwise.imp_of_mem (fun {q r} hq hr hle => ?_) (List.pairwise_map.mp o2))
    have f1 := (ti q (pL'.mem_iff.mp hq)).ints
    have f2 := (ti r (pL'.mem_iff.mp hr)).ints
    rw [← f1, ← f2]
    exact hle
  have em : L'.map (·.2) = canon ks := by
    have pm : (L'.map (·.2)).Perm ks := by rw [← hL2]; exact pL'.map _
    exact code_canon pw (pm.nodup_iff.mpr (by rw [← hL2]; exact hnd)) (fun k hk => hB k (pm.mem_iff.mp hk)) fun z => pm.mem_iff
  have hlen : (L'.map fun q => V.ref q.1).length ≤ sizeLine := by rw [List.length_map, pL'.length_eq, sizeLine_eq]; omega
  refine wpAny_pure ⟨_, rfl, .ref h'.objs.size, upd H h'.objs.size (.lst (L'.map fun q => V.ref q.1)), I1.laid (t' := tk) (fun b u e => ?_) (Nat.le_refl _)
    (show ObjOk X.prog X.w _ _ _ (.lst (L'.map fun q => V.ref q.1)) from ⟨hlen, out.toList, c, by rw [eL']; exact vals_of_refs L', by rw [Array.toArray_toList]; exact hc2⟩), rfl, q L' _ (fun p hp => hL3 p (pL'.mem_iff.mp hp)) em (I1.hok.fresh (Nat.le_refl _))⟩
  have hb : b < h'.objs.size := Heap.lt_size e
  rw [PyProof.Rows.sortedHeap_old (Nat.ne_of_lt hb) (by rw [size_push']; exact Nat.lt_succ_of_lt hb)]
  exact Heap.get?_push_of_some _ e
end
end Fw

set_option maxRecDepth 100000
set_option maxHeartbeats 4000000
namespace Fw
open PySem PySem.Spec PyProof.Rows L2
section
variable {X : Cx} {κ : Kx} {w : Wd} {st : Sto} {H : Hp} {ex : Nat → Addr}
/-! ## dict(pairs) -/
abbrev PRow : Type := Addr × (Addr × List Int) × V
def keyI (k : List Int) : List Key := k.map Sum.inl
def mergeT {α : Type} (f : List (List Key × α) → List Key → α → List (List Key × α)) (kvs : List (List Key × α)) : List (List Key × α) := kvs.foldl (fun acc q => f acc q.1 q.2) []
def rDictT (K : PySem.W.Frag) : List V → Hp → VK → Prop := fun xs H Q => ∃ (a : Addr) (R : List PRow), xs = [V.ref a] ∧ SqL K H a (R.map fun r => V.ref r.1) ∧ (∀ r ∈ R, SqT K H r.1 [V.ref r.2.1.1, r.2.2] ∧ H r.2.1.1 = some (.tup (r.2.1.2.map V.int))) ∧
  ∀ p, H p = none → Q (.ref p) (upd H p (.dT (mergeT putK (R.map fun r => (keyI r.2.1.2, r.2.2)))))
theorem pair_vals {pins : List (Addr × Obj)} {σ : L2.St} {s : Shared} (I : Inv X pins σ H s) : ∀ {R : List PRow}, (∀ r ∈ R, SqT X.K H r.1 [V.ref r.2.1.1, r.2.2] ∧ H r.2.1.1 = some (.tup (r.2.1.2.map V.int))) →
    ∃ Z : List (PRow × Value), Z.map (·.1) = R ∧ ∀ z ∈ Z, RelV z.1.2.2 z.2 ∧ s.heap.IsTuple z.1.1 #[Value.ref z.1.2.1.1, z.2] ∧ H z.1.2.1.1 = some (.tup (z.1.2.1.2.map V.int))
  | [], _ => ⟨[], rfl, fun z h => nomatch h⟩
  | r :: R, h => by
    obtain ⟨Z, e, hz⟩ := pair_vals I (R := R) fun q hq => h q (List.mem_cons_of_mem _ hq)
    obtain ⟨h1, h2⟩ := h r List.mem_cons_self
    obtain ⟨its, rv, ht, _⟩ := I.tuple h1
    obtain ⟨u, y, ei, ru, ry⟩ := vals2 rv
    subst ei
    cases ru
    refine ⟨(r, y) :: Z, by rw [List.map_cons, e], fun z hm => ?_⟩
    rcases List.mem_cons.mp hm with q | hm
    · rw [q]; exact ⟨ry, ht, h2⟩
    · exact hz z hm
theorem kt_merge {H : Hp} : ∀ {Z : List (PRow × Value)} {acc : List (List Key × V)} {xs : List (List Key × Addr × Value)}, (∀ z ∈ Z, RelV z.1.2.2 z.2 ∧ H z.1.2.1.1 = some (.tup (z.1.2.1.2.map V.int))) → KT H acc xs →
    KT H ((Z.map fun z => (keyI z.1.2.1.2, z.1.2.2)).foldl (fun acc q => putK acc q.1 q.2) acc) (storedAllH xs (Z.map fun z => (keyI z.1.2.1.2, z.1.2.1.1, z.2)))
  | [], _, _, _, r => r
  | z :: Z, acc, xs, h, r => by
    obtain ⟨h1, h2⟩ := h z List.mem_cons_self
    exact kt_merge (Z := Z) (fun q hq => h q (List.mem_cons_of_mem _ hq)) (r.put (keyI z.1.2.1.2) (by unfold keyI; rw [kV_ints]; exact h2) h1)
theorem length_merge {α : Type} {f : List (List Key × α) → List Key → α → List (List Key × α)} (hf : ∀ l k v, (f l k v).length ≤ l.length + 1) : ∀ (kvs acc : List (List Key × α)), (kvs.foldl (fun acc q => f acc q.1 q.2) acc).length ≤ acc.length + kvs.length
  | [], acc => by simp
  | q :: r, acc => by
    have h1 := length_merge hf r (f acc q.1 q.2)
    have h2 := hf acc q.1 q.2
    simp only [List.foldl_cons, List.length_cons]
    omega
theorem cr_dictT (hc : X.calm = true) (hu : X.A.units + 64 < cLine) : CallR X (.type "dict") (rDictT X.K) := by
  intro pins s σ H xs us Q I r h
  obtain ⟨a, R, rfl, hl, hR, q⟩ := h
  obtain ⟨u, rfl, rx⟩ := r.one
  cases rx
  obtain ⟨Z, eZ, hZ⟩ := pair_vals I hR
  obtain ⟨its, rv, pl, hz⟩ := I.list hl
  have ei : its = (R.map (·.1)).map Value.ref := refs_at (by rw [List.map_map]; exact rv)
  subst ei
  have lZ : Z.length = R.length := by rw [← eZ, List.length_map]
  have hzl : R.length ≤ sizeLine := by simpa using hz
  have gz : ∀ (j : Nat) (k v : Value), (Z.map fun z => (Value.ref z.1.2.1.1, z.2))[j]? = some (k, v) → ∃ z, Z[j]? = some z ∧ k = .ref z.1.2.1.1 ∧ v = z.2 := fun j k v e => by
    rw [List.getElem?_map] at e
    cases q : Z[j]? with
    | none => rw [q] at e; cases e
    | some z => rw [q] at e; cases e; exact ⟨z, rfl, rfl, rfl⟩
  have gR : ∀ {j : Nat} {z : PRow × Value}, Z[j]? = some z → R[j]? = some z.1 := fun {j z} e => by rw [← eZ, List.getElem?_map, e]; rfl
  have keyat : ∀ h' : Heap, (∀ b o, s.heap.get? b = some o → h'.get? b = some o) → ∀ z ∈ Z, (tupleKind (mixKind X.prog X.w)).is h' (keyI z.1.2.1.2) z.1.2.1.1 := fun h' k z hz => by
    obtain ⟨o, its, n, ho, h2, h3, h4⟩ := key_of (ks := keyI z.1.2.1.2) I.hok (by unfold keyI; rw [kV_ints]; exact (hZ z hz).2.2)
    exact ⟨o, its, n, k _ _ ho, h2, h3, h4⟩
  refine call_dict_pairsH (knd := tupleKind (mixKind X.prog X.w)) (ps := Z.map fun z => (keyI z.1.2.1.2, z.1.2.1.1, z.2)) (PairArg.list a ((R.map (·.1)).map Value.ref).toArray (fun j => (R.map (·.1)).getD j 0) (Z.map fun z => (Value.ref z.1.2.1.1, z.2)))
    (I.ok.hd hc) (tupleKind_room_in1 (A := X.A.in1) (by show X.A.units + 1 + 1 < cLine; omega)) ⟨by obtain ⟨o, n, ho, hcl, hdi, hda⟩ := pl; exact ⟨o, n, ho, hcl, hdi, hda⟩, ⟨by simp [lZ], fun j k v e => ?_⟩⟩ ⟨by simp, fun j k v e => ?_⟩ (fun h' hk x hx => ?_) (by rw [List.length_map, lZ]; exact hzl) fun h' tk hd' hk => ?_
  · obtain ⟨z, ez, rfl, rfl⟩ := gz j k v e
    have er := gR ez
    refine ⟨by simp [er], ?_⟩
    have ed : (R.map (·.1)).getD j 0 = z.1.1 := by rw [List.getD_eq_getElem?_getD, List.getElem?_map, er]; rfl
    show PairAt s.heap ((R.map (·.1)).getD j 0) _ _
    rw [ed]
    exact .inl (hZ z (List.mem_of_getElem? ez)).2.1
  · obtain ⟨z, ez, rfl, rfl⟩ := gz j k v e
    exact ⟨keyI z.1.2.1.2, z.1.2.1.1, by rw [List.getElem?_map, ez]; rfl, rfl⟩
  · obtain ⟨z, hz, rfl⟩ := List.mem_map.mp hx
    exact keyat h' (fun b o e => hk b o (Nat.ne_of_lt (Heap.lt_size e)) (fun m => nomatch m) e) z hz
  · obtain ⟨o, es, ep, ho, hcx, hdat, he, his, hn⟩ := hd'
    have hk' : ∀ b o, s.heap.get? b = some o → h'.get? b = some o := fun b o e => hk b o (fun m => nomatch m) e
    have hm : (s.heap.objs.size == sysModules) = false := beq_eq_false_iff_ne.mpr (Nat.ne_of_gt I.big)
    have hno : H s.heap.objs.size = none := I.hok.fresh (Nat.le_refl _)
    have kt0 : KT H (mergeT putK (R.map fun r => (keyI r.2.1.2, r.2.2))) (storedAllH [] (Z.map fun z => (keyI z.1.2.1.2, z.1.2.1.1, z.2))) := by
      have e : (R.map fun r => (keyI r.2.1.2, r.2.2)) = Z.map fun z => (keyI z.1.2.1.2, z.1.2.2) := by rw [← eZ, List.map_map]; rfl
      rw [e]
      exact kt_merge (acc := []) (fun z hz => ⟨(hZ z hz).1, (hZ z hz).2.2⟩) .nil
    have kt : KT (upd H s.heap.objs.size (.dT (mergeT putK (R.map fun r => (keyI r.2.1.2, r.2.2))))) (mergeT putK (R.map fun r => (keyI r.2.1.2, r.2.2))) (storedAllH [] (Z.map fun z => (keyI z.1.2.1.2, z.1.2.1.1, z.2))) := kt0.keeps fun b ys e => by
      rw [upd_ne (ne_of_none e hno)]; exact e
    have hlen : (mergeT putK (R.map fun r => (keyI r.2.1.2, r.2.2))).length ≤ sizeLine := by
      have := length_merge (f := putK) length_putK (R.map fun r => (keyI r.2.1.2, r.2.2)) []
      rw [List.length_map] at this
      unfold mergeT
      simp only [List.length_nil, Nat.zero_add] at this
      omega
    exact ⟨.ref s.heap.objs.size, upd H s.heap.objs.size (.dT (mergeT putK (R.map fun r => (keyI r.2.1.2, r.2.2)))), I.laid (t' := tk) hk' (Nat.le_refl _)
      (show ObjOk X.prog X.w _ _ _ (.dT (mergeT putK (R.map fun r => (keyI r.2.1.2, r.2.2)))) from ⟨hlen, hm, _, kt, o, es, ep, ho, hcx, hdat, he, hn⟩), rfl, q _ hno⟩
end
end Fw

set_option maxRecDepth 100000
set_option maxHeartbeats 4000000
namespace FwS
open PySem PySem.Spec PyProof.Rows L2
section
variable {P : Program} {w : World} {A : Around} {E : Value → Shared → Prop} {s : Shared}
set_option maxHeartbeats 8000000 in
theorem call_set_tupT {l : Addr} {items : Array Value} (ks : List (Addr × List Int)) {Q : Value → Shared → Prop} (noex : A.handled = none) (tupl : s.heap.IsTuple l items) (itks : items.toList = ks.map fun p => Value.ref p.1)
    (istk : ∀ p ∈ ks, IsT P w s.heap p.2 p.1) (sixty : ks.length < 64) (unit3 : A.units + 3 < cLine)
    (h : ∀ (h' : Heap) (tk : Nat) L es ep t, SetTR P w h' s.heap.objs.size L es ep t → Got ks ks.length L → (∀ b o, s.heap.get? b = some o → h'.get? b = some o) → Q (.ref s.heap.objs.size) { s with heap := h', toks := tk }) :
    wpAny (model P w) A (call (.type "set") [.ref l]) Q E s := by
  have sizk : items.size = ks.length := by
    have q := congrArg List.length itks
    rw [Array.length_toList, List.length_map] at q
    exact q
  obtain ⟨c, tl, mroq⟩ := F.called_set.mro
  have madeq := F.called_set.made
  have subq := F.called_set.sub
  refine wpAny_call (codeAny_of_tree ?_)
  show wpAny _ _ (callAny (.type "set") _) _ _ _
  refine wpAny_pure ⟨Code.quiet_builtin _ (by decide +kernel), codeAny_builtin F.entry_type_call ?_⟩
  rw [Around.under_plain (weight_type_call_type "set" [.ref l] []) rfl]
  have fa1 := F.called_set.notType
  have fa2 := F.called_set.canCreate
  have tcs := F.typeCall_set_1 (.ref l)
  repeat (any_goals (first | assumption | wp_step))

  refine codeAny_mono (code_set_led1 (.ref l) (E := E) (Q₁ := fun obj s₁ => obj = .ref s.heap.objs.size ∧ s₁ = { s with heap := s.heap.push { cls := .type "set", dict := none, data := .set #[] 0 (.fresh 0 0 (!w.params.followText "set-order")) } }) ⟨rfl, rfl⟩) fun r s₁ resr => ?_
  cases r with
  | error e => exact resr
  | ok fl =>
    cases fl with
    | ret obj =>
      obtain ⟨rfl, rfl⟩ := resr
      have atS : (s.heap.push { cls := .type "set", dict := none, data := .set #[] 0 (.fresh 0 0 (!w.params.followText "set-order")) }).get? s.heap.objs.size = some { cls := .type "set", dict := none, data := .set #[] 0 (.fresh 0 0 (!w.params.followText "set-order")) } := Heap.get?_push_size _ rfl
      have tyS : Shared.TypeIs { s with heap := s.heap.push { cls := .type "set", dict := none, data := .set #[] 0 (.fresh 0 0 (!w.params.followText "set-order")) } } (.ref s.heap.objs.size) "set" := ⟨_, atS, rfl⟩
      have lkp := F.called_set.init.lookup
      have bnd0 := F.called_set.init.bind (.ref s.heap.objs.size)
      repeat (any_goals (first | assumption | wp_step))

      refine codeAny_mono (codeAny_call_builtin (R := wants (fun r s₂ => r = .none ∧ ∃ h' tk L es ep t, s₂ = { s with heap := h', toks := tk } ∧ SetTR P w h' s.heap.objs.size L es ep t ∧ Got ks ks.length L ∧
          (∀ b o, s.heap.get? b = some o → h'.get? b = some o)) E) F.called_set.init.plain F.entry_set_init (check_set_init_1 tyS ?_)) fun r₂ s₂ resr2 => ?_
      · obtain ⟨objx, objl, clsl, numl, datl⟩ := tupl
        obtain ⟨kc, kd, kt, ks2⟩ := objx
        simp only at clsl datl
        subst clsl; subst datl
        have objl1 : (s.heap.push { cls := .type "set", dict := none, data := .set #[] 0 (.fresh 0 0 (!w.params.followText "set-order")) }).get? l = some { cls := .type "tuple", dict := kd, data := .seq items numl, slots := ks2 } := Heap.get?_push_of_some _ objl
        have nset := F.sub_tuple_set
        have nfro := F.sub_tuple_frozenset
        have ndic : (Value.type "tuple" == Value.type "dict") = false := by decide
        have tup1 : (s.heap.push { cls := .type "set", dict := none, data := .set #[] 0 (.fresh 0 0 (!w.params.followText "set-order")) }).IsTuple l items := ⟨_, objl1, rfl, numl, rfl⟩
        unfold Builtin.«set.__init__» noKeywords Builtin.Frozenset.updateFrom
        generalize eitf : pyIter = itf
        wp_walk
        subst eitf

        refine wpAny_pyIter_tuple tup1 ?_
        refine wpAny_bind (wpAny_runValue ?_)
        have lltS : l < s.heap.objs.size := Heap.lt_size objl
        have noex3 : A.in1.in1.in1.handled = none := by simp [noex]
        have siz1 : (s.heap.push { cls := .type "set", dict := none, data := .set #[] 0 (.fresh 0 0 (!w.params.followText "set-order")) }).objs.size = s.heap.objs.size + 1 := Heap.size_push ..
        have lneI : l ≠ (s.heap.push { cls := .type "set", dict := none, data := .set #[] 0 (.fresh 0 0 (!w.params.followText "set-order")) }).objs.size := by
          rw [Heap.size_push]; exact Nat.ne_of_lt (Nat.lt_succ_of_lt lltS)
        have Sfree : s.heap.objs.size ∉ [(s.heap.push { cls := .type "set", dict := none, data := .set #[] 0 (.fresh 0 0 (!w.params.followText "set-order")) }).objs.size, l] := by
          rw [Heap.size_push]; simp only [List.mem_cons, List.mem_singleton, List.not_mem_nil, or_false, not_or]
          exact ⟨Nat.ne_of_lt (Nat.lt_succ_self _), Nat.ne_of_gt lltS⟩
        have valk : ∀ (i : Nat) (v : Value), items[i]? = some v → ∃ p, ks[i]? = some p ∧ v = .ref p.1 := fun i v hv => by
          have q : items.toList[i]? = some v := by rw [Array.getElem?_toList]; exact hv
          rw [itks, List.getElem?_map] at q
          cases hq : ks[i]? with
          | none => rw [hq] at q; cases q
          | some p =>
            rw [hq] at q
            exact ⟨p, rfl, (Option.some.inj q).symm⟩
        have none_of : ∀ b, s.heap.objs.size ≤ b → s.heap.get? b = none := fun b hb => by
          cases q : s.heap.get? b with
          | none => rfl
          | some o => exact absurd (Nat.lt_of_lt_of_le (Heap.lt_size q) hb) (Nat.lt_irrefl _)
        refine set_update_tups ((Walks.tuple noex3 _ l lneI items).toS) s.heap.objs.size
          Sfree ks sizk sixty valk s.heap istk (none_of _ (Nat.le_refl _)) (fun b hb => none_of b (by
            rw [List.mem_singleton.mp hb, Heap.size_push]
            exact Nat.le_succ _)) unit3 (items.size - 0) 0 _ (by omega) (Nat.zero_le _)
          ⟨⟨_, Heap.get?_push_size _ rfl, rfl, rfl⟩, (tup1.push _)⟩ (fun b o e => Heap.get?_push_of_some _ (Heap.get?_push_of_some _ e)) ?hS0 ?hR
        case hS0 =>
          have getS : ((s.heap.push { cls := .type "set", dict := none, data := .set #[] 0 (.fresh 0 0 (!w.params.followText "set-order")) }).push { cls := .type "tuple_iterator", data := .fields #[.ref l, .int 0 0] }).get? s.heap.objs.size
              = some { cls := .type "set", dict := none, data := .set #[] 0 (.fresh 0 0 (!w.params.followText "set-order")) } := Heap.get?_push_of_some _ atS
          exact ⟨[], #[], 0, _, setTR_fresh getS, Got.zero ks⟩
        case hR =>
          intro s' L es ep t hm hS' g' hkp
          obtain ⟨h', g2, d', tk', os'⟩ := s'
          have eg : g2 = s.gens := hm.gens
          have ed : d' = s.drawn := hm.drawn
          have eo : os' = s.os := hm.os
          subst eg; subst ed; subst eo
          show wpAny _ _ _ _ _ _
          refine wpAny_pure ?_
          show wpAny _ _ (ret Value.none) _ _ _
          rw [sizk] at g'
          exact wpAny_pure ⟨rfl, h', tk', L, es, ep, t, rfl, hS', g', hkp⟩

      · cases r₂ with
        | error e => exact resr2
        | ok fl₂ =>
          cases fl₂ with
          | ret r =>
            obtain ⟨rfl, h', tk, L, es, ep, t, rfl, hS', g', hk'⟩ := resr2
            repeat (any_goals (first | assumption | wp_step))
            exact h _ _ _ _ _ _ hS' g' hk'
          | _ => exact resr2.elim
    | _ => exact resr.elim
end
end FwS

set_option maxRecDepth 100000
set_option maxHeartbeats 4000000
namespace Fw
open PySem PySem.Spec PyProof.Rows L2
section
variable {X : Cx} {κ : Kx} {Wx : WX} {w : Wd} {st : Sto} {σ : L2.St} {H : Hp} {ex : Nat → Addr} {mo mi me : Env' → M D} {o i e : Expr} {pos pos' : Pos}
/-! ## set(xs) -/
def mkSet (xs : List PyData) (st : Sto) : Option (D × Sto) := match tis xs with
  | some ks => if ks.length < 64 then some (.loc st.length, st ++ [.set ks]) else none
  | none => none
def setF : Fn1 := fun d st => match d with
  | .p (.list xs) => mkSet xs st
  | .p (.tuple xs) => mkSet xs st
  | _ => none
theorem set_fin {a : Addr} {ks : List (List Int)} {L : List (Addr × List Int)} {Q : VK} (hH : HoldK κ w st H) (na : H a = none) (hs : ∀ p ∈ L, SqT κ.K w.W p.1 (p.2.map V.int)) (hm : ∀ k, k ∈ L.map (·.2) ↔ k ∈ ks)
    (fin : ∀ w' H' v, w.Le w' → HoldK κ w' (st ++ [.set ks]) H' → RelD κ.K w' (.loc st.length) v → Q v H') : Q (.ref a) (upd H a (SetTO κ.P κ.ww a L)) := by
  have hI := Hold.mut_new (o := SetTO κ.P κ.ww a L) (b := .set ks) hH na ⟨L, rfl, hm, hs⟩ True.intro
  exact fin _ _ _ Wd.le_mut hI ⟨a, rfl, by
    show (w.L ++ [a])[st.length]? = some a
    rw [← hH.len, List.getElem?_append_right (Nat.le_refl _)]
    simp⟩
theorem c_set (hc : X.calm = true) (hu : X.A.units + 64 < cLine) : CallR X (.type "set") (rdL (kxOf X ex) (gL1 setF)) := by
  intro pins s σ H vs us Q I rv h
  obtain ⟨w, x, v, st, rfl, r1, hH, d, st', e, fin⟩ := gL1_inv h
  unfold setF at e
  have mk : ∀ {xs : List PyData}, mkSet xs st = some (d, st') → ∃ ks, xs = ks.map tupI ∧ ks.length < 64 ∧ d = .loc st.length ∧ st' = st ++ [.set ks] := fun {xs} h => by
    unfold mkSet at h
    split at h
    · rename_i ks q
      split at h
      · rename_i hl
        cases h
        exact ⟨ks, tis_eq q, hl, rfl, rfl⟩
      · cases h
    · cases h
  split at e
  · rename_i xs
    obtain ⟨ks, rfl, hl, rfl, rfl⟩ := mk e
    have r1' : Dp X.K w.W v (.list (ks.map tupI)) := r1
    obtain ⟨b, ws, rfl, s1, a1⟩ := Dp.lst_inv r1'
    obtain ⟨L0, rfl, rfl, h3⟩ := rows_of a1
    have hl' : L0.length < 64 := by simpa using hl
    refine cr_setOfT hc hu pins s σ H _ us Q I rv ⟨b, L0, rfl, sqL_mono (fun _ _ e => hH.wd e) s1, fun p hp => sqT_mono (fun _ _ e => hH.wd e) (h3 p hp), hl', fun a L na g1 g2 => ?_⟩
    exact set_fin (κ := kxOf X ex) hH na (fun p hp => h3 p (g1 p hp)) (fun k => ⟨fun hk => by
      obtain ⟨p, hp, rfl⟩ := List.mem_map.mp hk
      exact List.mem_map.mpr ⟨p, g1 p hp, rfl⟩, fun hk => by
      obtain ⟨p, hp, rfl⟩ := List.mem_map.mp hk
      exact g2 p hp⟩) fin
  · rename_i xs
    obtain ⟨ks, rfl, hl, rfl, rfl⟩ := mk e
    have r1' : Dp X.K w.W v (.tuple (ks.map tupI)) := r1
    obtain ⟨b, ws, rfl, s1, a1⟩ := Dp.tup_inv r1'
    obtain ⟨L0, rfl, rfl, h3⟩ := rows_of a1
    have hl' : L0.length < 64 := by simpa using hl
    rw [Vals.ref1 rv]
    obtain ⟨its, ri, pl, hz⟩ := I.tuple (sqT_mono (fun _ _ e => hH.wd e) s1)
    have hn : H s.heap.objs.size = none := I.hok.fresh (Nat.le_refl _)
    refine FwS.call_set_tupT (P := X.prog) (w := X.w) L0 (I.ok.hd hc) pl (by simpa using refs_of_vals ri) (fun p hp => I.isT (sqT_mono (fun _ _ e => hH.wd e) (h3 p hp))) hl' (by omega) fun h' tk L es ep t R g k => ?_
    refine ⟨.ref s.heap.objs.size, upd H s.heap.objs.size (SetTO X.prog X.w s.heap.objs.size L), I.laid (t' := tk) k (Nat.le_refl _) (setTO_new R.t0), rfl, ?_⟩
    have g1 : ∀ p ∈ L, p ∈ L0 := fun p hp => List.mem_of_mem_take (g.sub p hp)
    have g2 : ∀ p ∈ L0, p.2 ∈ L.map (·.2) := fun p hp => g.all p (by rw [List.take_length]; exact hp)
    exact set_fin (κ := kxOf X ex) hH hn (fun p hp => h3 p (g1 p hp)) (fun k => ⟨fun hk => by
      obtain ⟨p, hp, rfl⟩ := List.mem_map.mp hk
      exact List.mem_map.mpr ⟨p, g1 p hp, rfl⟩, fun hk => by
      obtain ⟨p, hp, rfl⟩ := List.mem_map.mp hk
      exact g2 p hp⟩) fin
  · cases e

/-! ## sorted(..) of a set, of a dict, of data -/
def sortF : Fn1 := fun d st => match d with
  | .loc n => (match st[n]? with
    | some (.set ks) => if okK ks = true then some (.p (.list ((canon ks).map tupI)), st) else none
    | some (.dT kvs) => (match dKeys kvs with
      | some ks => if okK ks = true then some (.p (.list ((canon ks).map tupI)), st) else none
      | none => none)
    | _ => none)
  | x => lift1 1 (sortP false) x st
theorem rows_new {L : List (Addr × List Int)} {p : Addr} {Q : VK} (hH : HoldK κ w st H) (np : H p = none) (h : ∀ q ∈ L, SqT κ.K w.W q.1 (q.2.map V.int))
    (fin : ∀ w' H' v, w.Le w' → HoldK κ w' st H' → RelD κ.K w' (.p (.list ((L.map (·.2)).map tupI))) v → Q v H') : Q (.ref p) (upd H p (.lst (L.map fun q => V.ref q.1))) := fin_lst hH np (rows_to h) fin
theorem rows_canon {L : List (Addr × List Int)} {d : Nat} {B : Int} {ks : List (List Int)} (hd : ∀ k ∈ ks, k.length = d ∧ TS.Bd B k) (hm : ∀ k, k ∈ L.map (·.2) ↔ k ∈ ks) (hn : (L.map (·.2)).Nodup) (hp : L.Pairwise fun q r => TS.code B q.2 ≤ TS.code B r.2) : L.map (·.2) = canon ks :=
  code_canon (List.pairwise_map.mpr hp) hn (fun k hk => hd k ((hm k).mp hk)) hm
theorem c_sortedG (hc : X.calm = true) (hu : X.A.units + 64 < cLine) (nt : NoTup X.K) : CallR X (.builtin "sorted") (rdL (kxOf X ex) (gL1 sortF)) := by
  intro pins s σ H vs us Q I rv h
  obtain ⟨w, x, v, st, rfl, r1, hH, d, st', e, fin⟩ := gL1_inv h
  cases x with
  | p y => exact c_sorted hu pins s σ H _ us Q I rv ⟨w, [.p y], st, .cons r1 .nil, hH, d, st', e, fin⟩
  | loc n =>
    obtain ⟨a, rfl, ha⟩ := r1
    have e' : (match st[n]? with
      | some (.set ks) => if okK ks = true then some (D.p (.list ((canon ks).map tupI)), st) else none
      | some (.dT kvs) => (match dKeys kvs with
        | some ks => if okK ks = true then some (D.p (.list ((canon ks).map tupI)), st) else none
        | none => none)
      | _ => none) = some (d, st') := e
    cases q : st[n]? with
    | none => rw [q] at e'; cases e'
    | some b =>
      rw [q] at e'
      cases b with
      | set ks =>
        simp only at e'
        split at e'
        · rename_i hk
          cases e'
          obtain ⟨h64, dd, B, hd1, hB⟩ := okK_ok hk
          obtain ⟨ob, hob, L, rfl, hm, hs⟩ := hH.obs n a _ ha q
          have hmem : ∀ p ∈ L, p.2 ∈ ks := fun p hp => (hm p.2).mp (List.mem_map.mpr ⟨p, hp, rfl⟩)
          refine cr_sortedT hc pins s σ H _ us Q I rv ⟨a, L, dd, B, rfl, hob, fun p hp => sqT_mono (fun _ _ e => hH.wd e) (hs p hp), hd1, fun p hp => hB _ (hmem p hp), fun L' p pm nd l64 pw np => ?_⟩
          have e1 : L'.map (·.2) = canon ks := rows_canon hB (fun k => by rw [← hm k]; exact (pm.map _).mem_iff) nd pw
          exact rows_new (κ := kxOf X ex) hH np (fun z hz => hs z (pm.mem_iff.mp hz)) (by rw [e1]; exact fin)
        · cases e'
      | dT kvs =>
        simp only at e'
        split at e'
        · rename_i ks qk
          split at e'
          · rename_i hk
            cases e'
            obtain ⟨ob, hob, vs', rfl, hke, _⟩ := hH.obs n a _ ha q
            refine cr_sortD hc pins s σ H _ us Q I rv ⟨a, vs', ks, rfl, hob, by rw [hke]; exact dKeys_eq qk, hk, fun L p hL eL np => ?_⟩
            obtain ⟨w2, le2, hH2, hw2⟩ := Hold.adopt hH (fun b => ∃ z ∈ L, z.1 = b) fun b ⟨z, hz, eb⟩ => ⟨z.2.map V.int, by rw [← eb]; exact hL z hz⟩
            exact rows_new (κ := kxOf X ex) hH2 np (fun z hz => SqT.of (hw2 z.1 _ ⟨z, hz, rfl⟩ (hL z hz))) (by rw [eL]; exact fun w' H' v le => fin w' H' v (le2.trans le))
          · cases e'
        · cases e'
      | lst _ => cases e'
      | dK _ => cases e'

/-! ## dicts with rows of ints as keys -/
def putX {α : Type} (kvs : List (List Key × α)) (k : List Key) (v : α) : List (List Key × α) := if (kvs.any fun q => decide (q.1 = k)) = true then kvs.map (fun q => if q.1 = k then (q.1, v) else q) else kvs ++ [(k, v)]
inductive RP (K : PySem.W.Frag) (w : Wd) : List (List Key × PyData) → List (List Key × V) → Prop
  | nil : RP K w [] []
  | cons {k : List Key} {x : PyData} {v : V} {l : List (List Key × PyData)} {m : List (List Key × V)} : Dp K w.W v x → RP K w l m → RP K w ((k, x) :: l) ((k, v) :: m)
theorem RP.of {K : PySem.W.Frag} {w : Wd} : ∀ {l : List (List Key × PyData)} {m : List (List Key × V)}, m.map (·.1) = l.map (·.1) → RelL K w (l.map fun q => .p q.2) (m.map (·.2)) → RP K w l m
  | [], [], _, _ => .nil
  | [], _ :: _, h, _ => by cases h
  | _ :: _, [], h, _ => by cases h
  | (k, x) :: l, (j, v) :: m, h, r => by
    rw [List.map_cons, List.map_cons] at h
    injection h with h1 h2
    cases h1
    cases r with
    | cons a b => exact .cons a (RP.of h2 b)
theorem RP.keys {K : PySem.W.Frag} {w : Wd} : ∀ {l : List (List Key × PyData)} {m : List (List Key × V)}, RP K w l m → m.map (·.1) = l.map (·.1)
  | _, _, .nil => rfl
  | _, _, .cons _ r => by rw [List.map_cons, List.map_cons, RP.keys r]
theorem RP.vals {K : PySem.W.Frag} {w : Wd} : ∀ {l : List (List Key × PyData)} {m : List (List Key × V)}, RP K w l m → RelL K w (l.map fun q => .p q.2) (m.map (·.2))
  | _, _, .nil => .nil
  | _, _, .cons d r => .cons d (RP.vals r)
theorem RP.any {K : PySem.W.Frag} {w : Wd} {k : List Key} : ∀ {l : List (List Key × PyData)} {m : List (List Key × V)}, RP K w l m → (l.any fun q => decide (q.1 = k)) = (m.any fun q => decide (q.1 = k))
  | _, _, .nil => rfl
  | _, _, .cons d r => by rw [List.any_cons, List.any_cons, RP.any r]
theorem RP.repl {K : PySem.W.Frag} {w : Wd} {k : List Key} {x : PyData} {v : V} (d : Dp K w.W v x) : ∀ {l : List (List Key × PyData)} {m : List (List Key × V)}, RP K w l m → RP K w (l.map fun q => if q.1 = k then (q.1, x) else q) (m.map fun q => if q.1 = k then (q.1, v) else q)
  | _, _, .nil => .nil
  | _, _, .cons (k := j) d' r => by
    rw [List.map_cons, List.map_cons]
    by_cases e : j = k
    · rw [if_pos e, if_pos e]; exact .cons d (RP.repl d r)
    · rw [if_neg e, if_neg e]; exact .cons d' (RP.repl d r)
theorem RP.snoc {K : PySem.W.Frag} {w : Wd} {k : List Key} {x : PyData} {v : V} (d : Dp K w.W v x) : ∀ {l : List (List Key × PyData)} {m : List (List Key × V)}, RP K w l m → RP K w (l ++ [(k, x)]) (m ++ [(k, v)])
  | _, _, .nil => .cons d .nil
  | _, _, .cons d' r => .cons d' (RP.snoc d r)
theorem RP.put {K : PySem.W.Frag} {w : Wd} {k : List Key} {x : PyData} {v : V} {l : List (List Key × PyData)} {m : List (List Key × V)} (d : Dp K w.W v x) (r : RP K w l m) : RP K w (putX l k x) (putK m k v) := by
  unfold putX putK
  rw [r.any]
  split
  · exact r.repl d
  · exact r.snoc d
theorem RP.merge {K : PySem.W.Frag} {w : Wd} : ∀ {l acc : List (List Key × PyData)} {m bcc : List (List Key × V)}, RP K w l m → RP K w acc bcc → RP K w (l.foldl (fun a q => putX a q.1 q.2) acc) (m.foldl (fun a q => putK a q.1 q.2) bcc)
  | _, _, _, _, .nil, r => r
  | _, _, _, _, .cons (k := k) (x := x) (v := v) (l := l) (m := m) d t, r => RP.merge (l := l) (m := m) t (RP.put d r)
def mNewD : Env' → M D := fun _ st => .ok (.loc st.length) (st ++ [.dT []])
theorem r_newD : PE X (.Dict [] [] pos) (rdE κ mNewD Wx) := pe_dnewT.wk fun σ H Q h => by
  obtain ⟨w, env, st, hE, hH, hp⟩ := h
  intro p np
  have hI := Hold.mut_new (o := .dT []) (b := .dT []) hH np ⟨[], rfl, rfl, .nil⟩ True.intro
  refine hp _ _ Wd.le_mut hI _ ⟨p, rfl, ?_⟩
  show (w.L ++ [p])[st.length]? = some p
  rw [← hH.len, List.getElem?_append_right (Nat.le_refl _)]
  simp
/-- pairs of a row and a datum -/
def prs : List PyData → Option (List (List Int × PyData))
  | [] => some []
  | .tuple [k, x] :: r => (match asTI k, prs r with
    | some ks, some l => if ks ≠ [] then some ((ks, x) :: l) else none
    | _, _ => none)
  | _ :: _ => none
theorem prs_eq : ∀ {xs : List PyData} {l : List (List Int × PyData)}, prs xs = some l → (xs = l.map fun q => .tuple [tupI q.1, q.2]) ∧ ∀ q ∈ l, q.1 ≠ []
  | [], l, h => by cases h; exact ⟨rfl, fun q h => absurd h List.not_mem_nil⟩
  | x :: r, l, h => by
    unfold prs at h
    split at h
    · rename_i hx; cases hx
    · rename_i k y r' hx
      injection hx with h1 h2
      subst h1 h2
      split at h
      · rename_i ks l' h1 h2
        split at h
        · rename_i hne
          cases h
          obtain ⟨q1, q2⟩ := prs_eq h2
          refine ⟨by rw [List.map_cons, asTI_eq h1, ← q1], fun q hq => ?_⟩
          rcases List.mem_cons.mp hq with e | hq
          · rw [e]; exact hne
          · exact q2 q hq
        · cases h
      · cases h
    · cases h
def dictF : Fn1 := fun d st => match d with
  | .p (.list xs) => (match prs xs with
    | some l => some (.loc st.length, st ++ [.dT (mergeT putX (l.map fun q => (keyI q.1, q.2)))])
    | none => none)
  | _ => none
theorem prows_of {K : PySem.W.Frag} {W : Hp} : ∀ {l : List (List Int × PyData)} {vs : List V}, DpAll K W vs (l.map fun q => .tuple [tupI q.1, q.2]) → ∃ R : List PRow, vs = R.map (fun r => V.ref r.1) ∧
    (∀ r ∈ R, SqT K W r.1 [V.ref r.2.1.1, r.2.2] ∧ SqT K W r.2.1.1 (r.2.1.2.map V.int) ∧ ∃ q ∈ l, q.1 = r.2.1.2) ∧ ∀ w : Wd, w.W = W → RP K w (l.map fun q => (keyI q.1, q.2)) (R.map fun r => (keyI r.2.1.2, r.2.2))
  | [], _, r => by cases r; exact ⟨[], rfl, ⟨fun p h => absurd h List.not_mem_nil, fun _ _ => RP.nil⟩⟩
  | q :: l, _, r => by
    cases r with
    | cons a b =>
      obtain ⟨R, e1, h2, h3⟩ := prows_of b
      obtain ⟨c, us, e3, s, d⟩ := Dp.tup_inv a
      cases d with
      | cons d1 d2 =>
        cases d2 with
        | cons d2 d3 =>
          cases d3
          obtain ⟨c2, us2, e4, s2, d4⟩ := Dp.tup_inv d1
          have e5 := Dp.ints d4
          subst e5 e4 e3 e1
          refine ⟨(c, (c2, q.1), _) :: R, rfl, fun p hp => ?_, fun w hw => .cons (by rw [hw]; exact d2) (h3 w hw)⟩
          rcases List.mem_cons.mp hp with z | hp
          · rw [z]; exact ⟨s, s2, q, List.mem_cons_self, rfl⟩
          · obtain ⟨g1, g2, y, hy, ey⟩ := h2 p hp
            exact ⟨g1, g2, y, List.mem_cons_of_mem _ hy, ey⟩
theorem c_dict (hc : X.calm = true) (hu : X.A.units + 64 < cLine) (nt : NoTup X.K) : CallR X (.type "dict") (rdL (kxOf X ex) (gL1 dictF)) := by
  intro pins s σ H vs us Q I rv h
  obtain ⟨w, x, v, st, rfl, r1, hH, d, st', e, fin⟩ := gL1_inv h
  unfold dictF at e
  split at e
  · rename_i xs
    split at e
    · rename_i l ql
      cases e
      obtain ⟨hxs, hne⟩ := prs_eq ql
      subst hxs
      have r1' : Dp X.K w.W v (.list _) := r1
      obtain ⟨b, ws, rfl, s1, a1⟩ := Dp.lst_inv r1'
      obtain ⟨R, rfl, h2, h3⟩ := prows_of a1
      refine cr_dictT hc hu pins s σ H _ us Q I rv ⟨b, R, rfl, sqL_mono (fun _ _ e => hH.wd e) s1, fun r hr => ⟨sqT_mono (fun _ _ e => hH.wd e) (h2 r hr).1, hH.wd (trk (κ := kxOf X ex) nt hH (by obtain ⟨y, hy, ey⟩ := (h2 r hr).2.2; rw [← ey]; exact hne y hy) (h2 r hr).2.1)⟩, fun p np => ?_⟩
      have rp : RP X.K w (mergeT putX (l.map fun q => (keyI q.1, q.2))) (mergeT putK (R.map fun r => (keyI r.2.1.2, r.2.2))) := RP.merge (h3 w rfl) .nil
      have hI := Hold.mut_new (b := .dT (mergeT putX (l.map fun q => (keyI q.1, q.2)))) hH np ⟨_, rfl, rp.keys, rp.vals⟩ True.intro
      refine fin _ _ _ Wd.le_mut hI ⟨p, rfl, ?_⟩
      show (w.L ++ [p])[st.length]? = some p
      rw [← hH.len, List.getElem?_append_right (Nat.le_refl _)]
      simp
    · cases e
  · cases e
/-- d[k] = v -/
def putD (o k v : D) (st : Sto) : Option Sto := match o, k, v with
  | .loc n, .p k, .p x => (match st[n]?, asTI k with
    | some (.dT kvs), some ks => if ks ≠ [] ∧ kvs.length ≤ 1000000 then some (st.set n (.dT (putX kvs (keyI ks) x))) else none
    | _, _ => none)
  | _, _, _ => none
def sPutD (mo mi me : Env' → M D) : MS := fun env => sbnd (bnd (me env) fun v => bnd (mo env) fun o => bnd (mi env) fun i => fun st => match putD o i v st with
  | some st' => .ok () st'
  | none => .bad) env fun _ st => .nx env st
theorem r_sputd (hu : X.A.units + 64 < cLine) (nt : NoTup X.K) (he : PE X e (rdE (kxOf X ex) me Wx)) (ho : PE X o (rdE (kxOf X ex) mo Wx)) (hi : PE X i (rdE (kxOf X ex) mi Wx)) (hs : swapsWith e (some (.Subscript o i pos')) pos.line X.env = pure false) :
    PS X (.Assign [.Subscript o i pos'] e pos) (rdS (kxOf X ex) (sPutD mo mi me) Wx) :=
  (ps_dput (by omega) ho hi he hs).wk fun E σ H h => by
    obtain ⟨w, env, st, hE, hH, hp⟩ := h
    have hp1 := PostG.bnd (PostS.bnd hE hp)
    refine ⟨w, env, st, hE, hH, hp1.imp fun v st1 w1 H1 le1 hH1 hp2 vv rv => ?_⟩
    have hE1 := hE.mono le1.toLc
    refine ⟨w1, env, st1, hE1, hH1, (PostG.bnd hp2).imp fun ov st2 w2 H2 le2 hH2 hp3 vo ro => ?_⟩
    have hE2 := hE1.mono le2.toLc
    refine ⟨w2, env, st2, hE2, hH2, (PostG.bnd hp3).imp fun iv st3 w3 H3 le3 hH3 hp4 vi ri => ?_⟩
    have hE3 := hE2.mono le3.toLc
    have ro3 := ro.mono le3.toLc
    have rv3 := rv.mono (le2.trans le3).toLc
    cases q : putD ov iv v st3 with
    | none => rw [q] at hp4; exact hp4.elim
    | some st4 =>
      rw [q] at hp4
      simp only at hp4
      unfold putD at q
      split at q
      · rename_i n k x
        split at q
        · rename_i kvs ks qd qk
          split at q
          · rename_i hl
            cases q
            obtain ⟨a, rfl, hla⟩ := ro3
            obtain ⟨ob, hob, vs', rfl, hk1, hk2⟩ := hH3.obs n a _ hla qd
            have := asTI_eq qk
            subst this
            have ri' : Dp X.K w3.W vi (.tuple (ks.map .int)) := ri
            obtain ⟨c, us, rfl, s1, a1⟩ := Dp.tup_inv ri'
            have := Dp.ints a1
            subst this
            have rp := (RP.of hk1 hk2).put (k := keyI ks) (x := x) (v := vv) rv3
            have hI : HoldK (kxOf X ex) w3 (st3.set n (.dT (putX kvs (keyI ks) x))) (upd H3 a (.dT (putK vs' (keyI ks) vv))) := Hold.write hH3 hla ⟨_, rfl, rp.keys, rp.vals⟩ True.intro
            have hlen : vs'.length = kvs.length := by
              have := congrArg List.length hk1
              simpa using this
            refine ⟨a, _, rfl, DPut.t (k := keyI ks) hob ?_ (by rw [hlen, sizeLine_eq]; have := hl.2; omega), hp4 w3 _ (Wd.Le.refl w3) hI w3 σ _ (Wd.Le.refl w3) hI hE3⟩
            show H3 c = some (.tup ((keyI ks).map kV))
            unfold keyI
            rw [kV_ints]
            exact hH3.wd (trk (κ := kxOf X ex) nt hH3 hl.1 s1)
          · cases q
        · cases q
      · cases q
end
end Fw

set_option maxRecDepth 100000
set_option maxHeartbeats 4000000
namespace Fw
open PySem PySem.Spec PyProof.Rows L2

/-! ## what is known of a text's names -/
structure Ck where
  N : List Str
  sc : Scope
  blk : Option Scope
  free : List Str
  glo : List (Str × PyData)
  funs : List (Str × Nat × (List D → M D))
  exs : List (Str × Nat)
  isa : Nat → Nat → Option Bool
  mu : List Nat
  dct : List Str
  fuel : Nat
def Ck.fnB (C : Ck) : Str → Bool := match C.blk with
  | none => fun _ => true
  | some s => fun x => s.names.lookup x == some .cell
structure Good (C : Ck) (X : Cx) (ex : Nat → Addr) (k : Nat) (Wx : WX) : Prop where
  calm : X.calm = true
  N : X.N = C.N
  nd : C.N.Nodup
  sc : X.env.scope = C.sc
  fn : X.fn = C.fnB
  free : ∀ x ∈ C.free, X.mg x = none
  glo : ∀ x d, C.glo.lookup x = some d → ∃ u v, X.mg x = some u ∧ RelV v u ∧ ∀ W, Dp X.K W v d
  funs : ∀ x q, C.funs.lookup x = some q → ∃ ps : List Str, ps.length = q.1 ∧ FnAt X ex k x ps q.2
  exs : ∀ x c, C.exs.lookup x = some c → ExcF X x (ex c)
  isa : ∀ c d b, C.isa c d = some b → PySem.W.exmOne X.K (.ref (ex c)) (.ref (ex d)) = some b
  tk : Takes X Wx
  room : Room k X.A
  nt : NoTup X.K
section
variable {C : Ck} {X : Cx} {ex : Nat → Addr} {k : Nat} {Wx : WX}
def ixOf : List Str → Str → Option Nat
  | [], _ => none
  | y :: r, x => if y = x then some 0 else (ixOf r x).map (· + 1)
theorem ixOf_ok : ∀ {N : List Str} {x : Str} {i : Nat}, ixOf N x = some i → N[i]? = some x
  | [], _, _, h => by cases h
  | y :: r, x, i, h => by
    unfold ixOf at h
    split at h
    · rename_i e
      cases h
      rw [e]
      rfl
    · cases q : ixOf r x with
      | none => rw [q] at h; cases h
      | some j =>
        rw [q] at h
        cases h
        show r[j]? = some x
        exact ixOf_ok q
def kd (C : Ck) (x : Str) : Option NameKind := C.sc.names.lookup x
def okN (x : Str) : Bool := !(x == ("__debug__" : Str)) && (!(x == ("__classdict__" : Str)) && decide (x ≠ "__name__"))
theorem okN_ok {x : Str} (h : okN x = true) : (x == ("__debug__" : Str)) = false ∧ (x == ("__classdict__" : Str)) = false ∧ x ≠ "__name__" := by
  unfold okN at h
  rw [Bool.and_eq_true, Bool.and_eq_true, Bool.not_eq_true', Bool.not_eq_true', decide_eq_true_eq] at h
  exact h
def visB (C : Ck) (x : Str) : Bool := okN x && (decide (kd C x = some .local) || (decide (kd C x = some .cell) || decide (kd C x = some .free)))
def glB (C : Ck) (x : Str) : Bool := okN x && decide (kd C x = some .globalImplicit)
def frB (C : Ck) (x : Str) : Bool := glB C x && decide (x ∈ C.free)
def asgB (C : Ck) (x : Str) : Bool := okN x && (decide (kd C x = some .local) || (decide (kd C x = some .cell) && C.fnB x))
theorem visB_ok (G : Good C X ex k Wx) {x : Str} (h : visB C x = true) : Vis X.env.scope x ∧ (x == ("__debug__" : Str)) = false ∧ (x == ("__classdict__" : Str)) = false := by
  unfold visB at h
  rw [Bool.and_eq_true, Bool.or_eq_true, Bool.or_eq_true, decide_eq_true_eq, decide_eq_true_eq, decide_eq_true_eq] at h
  obtain ⟨h1, h2, _⟩ := okN_ok h.1
  refine ⟨?_, h1, h2⟩
  unfold Vis
  rw [G.sc]
  exact h.2
theorem glB_ok (G : Good C X ex k Wx) {x : Str} (h : glB C x = true) : Gl X x ∧ (x == ("__debug__" : Str)) = false ∧ x ≠ "__name__" := by
  unfold glB at h
  rw [Bool.and_eq_true, decide_eq_true_eq] at h
  obtain ⟨h1, _, h2⟩ := okN_ok h.1
  refine ⟨?_, h1, h2⟩
  show X.env.scope.names.lookup x = _
  rw [G.sc]
  exact h.2
theorem frB_ok (G : Good C X ex k Wx) {x : Str} (h : frB C x = true) : Gl X x ∧ X.mg x = none ∧ (x == ("__debug__" : Str)) = false ∧ x ≠ "__name__" := by
  unfold frB at h
  rw [Bool.and_eq_true, decide_eq_true_eq] at h
  obtain ⟨h1, h2, h3⟩ := glB_ok G h.1
  exact ⟨h1, G.free x h.2, h2, h3⟩
theorem asgB_ok (G : Good C X ex k Wx) {x : Str} (h : asgB C x = true) : L2.Loc X.env.scope x ∧ (X.fn x = true ∨ X.env.scope.names.lookup x = some .local) := by
  unfold asgB at h
  rw [Bool.and_eq_true, Bool.or_eq_true, Bool.and_eq_true, decide_eq_true_eq, decide_eq_true_eq] at h
  unfold L2.Loc
  rw [G.sc, G.fn]
  rcases h.2 with q | ⟨q, r⟩
  · exact ⟨.inl q, .inr q⟩
  · exact ⟨.inr q, .inl r⟩
/-- no star ahead of an argument -/
def nst : Expr → Bool
  | .Starred _ _ => false
  | _ => true
theorem star1 {e : Expr} {es : List Expr} {env : Env} (h : nst e = true) : starEach (e :: es) env = (false, eval e env) :: starEach es env := by
  cases e <;> first | rfl | cases h
theorem stars {es : List Expr} {env : Env} {pos : Pos} (h : es.all nst = true) : (backTo pos (starEach es env)).any (·.1) = false := by
  induction es with
  | nil => rfl
  | cons e r ih =>
    rw [List.all_cons, Bool.and_eq_true] at h
    rw [star1 h.1]
    show (false || (backTo pos (starEach r env)).any (·.1)) = false
    rw [Bool.false_or]
    exact ih h.2
/-- a Python list of expressions that are no slices, and so on -/
def nSl : Expr → Bool
  | .Slice _ _ _ _ => false
  | _ => true
theorem plain_ix {b : Expr} (h : nSl b = true) : PlainIx b := by
  cases b <;> first | (intro o i; rfl) | cases h
def nSet : Expr → Bool
  | .Set _ _ _ => false
  | _ => true
theorem mark_no {op : CmpOp} {b : Expr} (h : nSet b = true) : behindInMarks op b = false := by
  cases b <;> first | rfl | cases h
theorem fold_no {b : Expr} {env : Env} (h : nSet b = true) : ∀ x, foldedSetIterable b env x = pure x := by
  cases b <;> first | (intro x; rfl) | cases h
def nCl : Expr → Bool
  | .Call _ _ _ _ => false
  | _ => true
theorem base_no {o : Expr} {a : Str} {env : Env} {w : Sem Value} (h : nCl o = true) : attributeBase o a env w = w := by
  cases o <;> first | rfl | cases h
def nCo : Expr → Bool
  | .ListComp _ _ _ _ => false
  | .SetComp _ _ _ _ => false
  | .DictComp _ _ _ _ _ => false
  | _ => true
theorem swap_no {e : Expr} {t : Option Expr} {n : Nat} {env : Env} (h : nCo e = true) : swapsWith e t n env = pure false := by
  cases e <;> first | rfl | cases h
theorem swap_sub {e o i : Expr} {p : Pos} {n : Nat} {env : Env} : swapsWith e (some (.Subscript o i p)) n env = pure false := by
  cases e <;> rfl
theorem swap_tup {e : Expr} {ts : List Expr} {q : Nat} {p : Pos} {n : Nat} {env : Env} : swapsWith e (some (.Tuple ts q p)) n env = pure false := by
  cases e <;> rfl
/-- tests that are looked at as values -/
def tvB : Expr → Bool
  | .Name _ _ => true
  | .Call _ _ _ _ => true
  | .Constant _ _ _ => true
  | .Subscript _ _ _ => true
  | _ => false
theorem tv_ok {a : Expr} {env : Env} (h : tvB a = true) : ∀ whole, isTrue a env whole = (do let v ← whole; standAt a.pos; holding [v] (truthy v)) := by
  cases a <;> first | (intro w; rfl) | cases h

/-! ## operators, built-ins -/
def binG : Operator → Option Fn2
  | .Add => some (lift2 1 addP)
  | .Sub => some (lift2 1 subP)
  | .Mult => some (lift2 1 mulP)
  | .FloorDiv => some (lift2 1 fdivP)
  | .Mod => some (lift2 1 modP)
  | _ => none
theorem binG_ok {op : Operator} {g : Fn2} (h : binG op = some g) : OpR X (binaryOp op) (rd2 (kxOf X ex) g) := by
  cases op <;> first | (cases h; done) | (cases h; first | exact o_add | exact o_sub | exact o_mul | exact o_fdiv | exact o_mod)
def cmpG : CmpOp → Option Fn2
  | .Eq => some (lift2 3 eqP)
  | .NotEq => some (lift2 3 neP)
  | .Lt => some (lift2 3 ltP)
  | .Gt => some (lift2 3 gtP)
  | .LtE => some (lift2 3 leP)
  | .GtE => some (lift2 3 geP)
  | .In => some (lift2 3 (inP false))
  | .NotIn => some (lift2 3 (inP true))
  | .Is => some (lift2 1 (isP false))
  | .IsNot => some (lift2 1 (isP true))
theorem cmpG_ok {op : CmpOp} {g : Fn2} (hu : X.A.units + 64 < cLine) (h : cmpG op = some g) : OpR X (compareOp op) (rd2 (kxOf X ex) g) := by
  cases op <;> (cases h; first | exact o_eq hu | exact o_ne hu | exact o_lt hu | exact o_gt hu | exact o_le hu | exact o_ge hu | exact o_in hu | exact o_notin hu | exact o_is | exact o_isnot)
def bu1 (x : Str) : Option FnL :=
  if x = "len" then some (gL1 lenG)
  else if x = "abs" then some (gL1 (lift1 1 absP))
  else if x = "int" then some (gL1 (lift1 1 intP))
  else if x = "all" then some (gL1 (lift1 1 allP))
  else if x = "any" then some (gL1 (lift1 1 anyP))
  else if x = "sum" then some (gL1 (lift1 1 sumP))
  else if x = "tuple" then some (gL1 (lift1 1 tupP))
  else if x = "list" then some (gL1 (lift1 1 lstP))
  else if x = "max" then some (gL1 (lift1 1 (best1 true)))
  else if x = "min" then some (gL1 (lift1 1 (best1 false)))
  else if x = "sorted" then some (gL1 sortF)
  else if x = "set" then some (gL1 setF)
  else if x = "dict" then some (gL1 dictF)
  else none
def bu2 (x : Str) : Option FnL :=
  if x = "max" then some (gL2 (lift2 1 max2P))
  else if x = "min" then some (gL2 (lift2 1 min2P))
  else none
theorem bu1_ok (G : Good C X ex k Wx) {x : Str} {g : FnL} (h : bu1 x = some g) {ms : Env' → M (List D)} {e : Expr} {es : List Expr} {pos p : Pos} (ha : PA X (e :: es) (rdA (kxOf X ex) ms Wx)) (hx : frB C x = true) (hn : (e :: es).all nst = true) :
    PE X (.Call (.Name x p) (e :: es) [] pos) (rdE (kxOf X ex) (mL ms g) Wx) := by
  obtain ⟨g1, g2, g3, g4⟩ := frB_ok G hx
  rw [List.all_cons, Bool.and_eq_true] at hn
  have hu := G.room.units
  have hc := G.calm
  unfold bu1 at h
  by_cases qlen : x = "len"
  · rw [if_pos qlen] at h
    cases h
    subst qlen
    exact r_callB c_len g1 g2 (by decide +kernel) ha g4 g3 (star1 hn.1) (stars hn.2)
  rw [if_neg qlen] at h
  by_cases qabs : x = "abs"
  · rw [if_pos qabs] at h
    cases h
    subst qabs
    exact r_callB c_abs g1 g2 PyProof.Rows.boot_abs ha g4 g3 (star1 hn.1) (stars hn.2)
  rw [if_neg qabs] at h
  by_cases qint : x = "int"
  · rw [if_pos qint] at h
    cases h
    subst qint
    exact r_callTy c_int g1 g2 PyProof.Rows.boot_int ha g4 g3 (star1 hn.1) (stars hn.2)
  rw [if_neg qint] at h
  by_cases qall : x = "all"
  · rw [if_pos qall] at h
    cases h
    subst qall
    exact r_callB (c_all hc) g1 g2 PyProof.Rows.boot_all ha g4 g3 (star1 hn.1) (stars hn.2)
  rw [if_neg qall] at h
  by_cases qany : x = "any"
  · rw [if_pos qany] at h
    cases h
    subst qany
    exact r_callB (c_any hc) g1 g2 PyProof.Rows.boot_any ha g4 g3 (star1 hn.1) (stars hn.2)
  rw [if_neg qany] at h
  by_cases qsum : x = "sum"
  · rw [if_pos qsum] at h
    cases h
    subst qsum
    exact r_callB (c_sum hc) g1 g2 PyProof.Rows.boot_sum ha g4 g3 (star1 hn.1) (stars hn.2)
  rw [if_neg qsum] at h
  by_cases qtuple : x = "tuple"
  · rw [if_pos qtuple] at h
    cases h
    subst qtuple
    exact r_callTy c_tuple g1 g2 PyProof.Rows.boot_tuple ha g4 g3 (star1 hn.1) (stars hn.2)
  rw [if_neg qtuple] at h
  by_cases qlist : x = "list"
  · rw [if_pos qlist] at h
    cases h
    subst qlist
    exact r_callTy c_list g1 g2 PyProof.Rows.boot_list ha g4 g3 (star1 hn.1) (stars hn.2)
  rw [if_neg qlist] at h
  by_cases qmax : x = "max"
  · rw [if_pos qmax] at h
    cases h
    subst qmax
    exact r_callB (c_best hc hu true) g1 g2 PyProof.Rows.boot_max ha g4 g3 (star1 hn.1) (stars hn.2)
  rw [if_neg qmax] at h
  by_cases qmin : x = "min"
  · rw [if_pos qmin] at h
    cases h
    subst qmin
    exact r_callB (c_best hc hu false) g1 g2 PyProof.Rows.boot_min ha g4 g3 (star1 hn.1) (stars hn.2)
  rw [if_neg qmin] at h
  by_cases qsorted : x = "sorted"
  · rw [if_pos qsorted] at h
    cases h
    subst qsorted
    exact r_callB (c_sortedG hc hu G.nt) g1 g2 PyProof.Rows.boot_sorted ha g4 g3 (star1 hn.1) (stars hn.2)
  rw [if_neg qsorted] at h
  by_cases qset : x = "set"
  · rw [if_pos qset] at h
    cases h
    subst qset
    exact r_callTy (c_set hc hu) g1 g2 PyProof.Rows.boot_set ha g4 g3 (star1 hn.1) (stars hn.2)
  rw [if_neg qset] at h
  by_cases qdict : x = "dict"
  · rw [if_pos qdict] at h
    cases h
    subst qdict
    exact r_callTy (c_dict hc hu G.nt) g1 g2 PyProof.Rows.boot_dict ha g4 g3 (star1 hn.1) (stars hn.2)
  rw [if_neg qdict] at h
  cases h
theorem bu2_ok (G : Good C X ex k Wx) {x : Str} {g : FnL} (h : bu2 x = some g) {ms : Env' → M (List D)} {e : Expr} {es : List Expr} {pos p : Pos} (ha : PA X (e :: es) (rdA (kxOf X ex) ms Wx)) (hx : frB C x = true) (hn : (e :: es).all nst = true) :
    PE X (.Call (.Name x p) (e :: es) [] pos) (rdE (kxOf X ex) (mL ms g) Wx) := by
  obtain ⟨g1, g2, g3, g4⟩ := frB_ok G hx
  rw [List.all_cons, Bool.and_eq_true] at hn
  have hu := G.room.units
  have hc := G.calm
  unfold bu2 at h
  by_cases qmax : x = "max"
  · rw [if_pos qmax] at h
    cases h
    subst qmax
    exact r_callB (c_max2 hc) g1 g2 PyProof.Rows.boot_max ha g4 g3 (star1 hn.1) (stars hn.2)
  rw [if_neg qmax] at h
  by_cases qmin : x = "min"
  · rw [if_pos qmin] at h
    cases h
    subst qmin
    exact r_callB (c_min2 hc) g1 g2 PyProof.Rows.boot_min ha g4 g3 (star1 hn.1) (stars hn.2)
  rw [if_neg qmin] at h
  cases h
def clOf (y : Str) : Option Cl := if y = "int" then some .int else if y = "bool" then some .bool else if y = "str" then some .str else if y = "tuple" then some .tup else if y = "list" then some .lst else none
theorem clOf_ok {y : Str} {c : Cl} (h : clOf y = some c) : bootBuiltins y = some (.type c.nm) := by
  unfold clOf at h
  by_cases qint : y = "int"
  · rw [if_pos qint] at h
    cases h
    subst qint
    exact PyProof.Rows.boot_int
  rw [if_neg qint] at h
  by_cases qbool : y = "bool"
  · rw [if_pos qbool] at h
    cases h
    subst qbool
    exact PyProof.Rows.boot_bool
  rw [if_neg qbool] at h
  by_cases qstr : y = "str"
  · rw [if_pos qstr] at h
    cases h
    subst qstr
    exact PyProof.Rows.boot_str
  rw [if_neg qstr] at h
  by_cases qtuple : y = "tuple"
  · rw [if_pos qtuple] at h
    cases h
    subst qtuple
    exact PyProof.Rows.boot_tuple
  rw [if_neg qtuple] at h
  by_cases qlist : y = "list"
  · rw [if_pos qlist] at h
    cases h
    subst qlist
    exact PyProof.Rows.boot_list
  rw [if_neg qlist] at h
  cases h
end
end Fw

set_option maxRecDepth 100000
set_option maxHeartbeats 4000000
namespace Fw
open PySem PySem.Spec PyProof.Rows L2
section
variable {X : Cx} {κ : Kx} {Wx : WX} {ex : Nat → Addr}
/-! ## a comprehension over a name, maybe a dict's -/
def pureE (env : Env') : Env' := env.map fun o => match o with
  | some (.p x) => some (.p x)
  | _ => none
theorem pureE_rel {w w' : Wd} {env : Env'} {σ : L2.St} (hE : RelE κ w env σ) (hW : w'.W = w.W) : RelE κ w' (pureE env) σ := by
  refine ⟨by unfold pureE; rw [List.length_map]; exact hE.1, fun i d e => ?_⟩
  unfold pureE at e
  rw [List.getElem?_map] at e
  cases q : env[i]? with
  | none => rw [q] at e; cases e
  | some o =>
    rw [q] at e
    cases o with
    | none => cases e
    | some z =>
      cases z with
      | loc n => cases e
      | p x =>
        cases e
        obtain ⟨v, h1, h2⟩ := hE.2 i _ q
        refine ⟨v, h1, ?_⟩
        show Dp κ.K w'.W v x
        rw [hW]
        exact h2
def mCompV (mu : Bool) (i : Nat) (g : G) (own : List Nat) (t : Env' → M Bool) (m : Env' → M D) : Env' → M D := fun env st => match env[i]?.bind id with
  | some (.loc n) => (match st[n]? with
    | some (.dT kvs) => (match dKeys kvs with
      | some ks => (match compR 1000000 (pureE env) g own (bodyC t m) (.fix (ks.map fun k => .p (tupI k))) [] with
        | .ok ds [] => (match pures ds with
          | some xs => .ok (.p (.list xs)) st
          | none => .bad)
        | _ => .bad)
      | none => .bad)
    | _ => mComp mu (iSeq (mVar i)) g own t m env st)
  | _ => mComp mu (iSeq (mVar i)) g own t m env st
theorem serves_keys {w : Wd} {S : Hp} {a : Addr} {od : Obj} {vs : List (List Key × V)} {ks : List (List Int)} (hk : vs.map (·.1) = ks.map fun k => k.map Sum.inl) (hS : S a = some (.frz od (.dT vs))) : Serves κ w S (.fix (ks.map fun k => .p (tupI k))) (Itkt a od vs) where
  go := fun i w1 st H ds le hT hH hc hi => by
    cases hc
    have hl : vs.length = ks.length := by
      have := congrArg List.length hk
      simpa using this
    exact ⟨hH.tmp a _ (hT a _ hS), by rw [hl]; simpa using hi⟩
  stop := fun i w1 st H ds le hT hH hc hi => by
    cases hc
    have hl : vs.length = ks.length := by
      have := congrArg List.length hk
      simpa using this
    exact ⟨hH.tmp a _ (hT a _ hS), by rw [hl]; simpa using hi⟩
  yld := fun i w1 st H H' ds d x le hT hH hc hd hy => by
    cases hc
    obtain ⟨rfl, k, v, q, e1, rfl, hq⟩ := hy
    rw [List.getElem?_map] at hd
    cases qk : ks[i]? with
    | none => rw [qk] at hd; cases hd
    | some kk =>
      rw [qk] at hd
      cases hd
      have e2 : (vs.map (·.1))[i]? = some k := by rw [List.getElem?_map, e1]; rfl
      rw [hk, List.getElem?_map, qk] at e2
      have e3 : kk.map Sum.inl = k := Option.some.inj e2
      rw [← e3, kV_ints] at hq
      obtain ⟨w2, le2, hH2, hw2⟩ := Hold.adopt hH (fun b => b = q) fun b e => ⟨kk.map V.int, by rw [e]; exact hq⟩
      exact ⟨w2, le2, hH2, .tup (SqT.of (hw2 q _ rfl hq)) (ints_dp kk)⟩
theorem r_compV {mu : Bool} {i : Nat} {x : Str} {elt tg : Expr} {ifs : List Expr} {scope : Scope} {own : List (Str × Nat)} {p pos : Pos} {g : G} {t : Env' → M Bool} {m : Env' → M D} (hc : X.calm = true) (hN : X.N.Nodup) (hv : PE X (.Name x p) (tVar i)) (ok : BlkOk X.N X.env.scope scope own) (hgx : ∀ i ∈ gIx g, i ∈ own.map (·.2))
    (hg : ∀ (s : Shared) (H : Hp) (C : Addr) (cl : List (Str × Addr)) (fp : List Addr), PG (X.blk s H scope (compEnvC scope cl C X.env) fp) tg (rdG (kxOf X ex) g)) (ht : ∀ (s : Shared) (H : Hp) (C : Addr) (cl : List (Str × Addr)) (fp : List Addr), PTs (X.blk s H scope (compEnvC scope cl C X.env) fp) ifs (rdT (kxOf X ex) t FW))
    (he : ∀ (s : Shared) (H : Hp) (C : Addr) (cl : List (Str × Addr)) (fp : List Addr), PE (X.blk s H scope (compEnvC scope cl C X.env) fp) elt (rdE (kxOf X ex) m FW)) :
    PE X (.ListComp elt [⟨tg, .Name x p, ifs, 0⟩] scope pos) (rdE (kxOf X ex) (mCompV mu i g (own.map (·.2)) t m) Wx) := by
  have hs : ∀ z, foldedSetIterable (.Name x p) X.env z = pure z := fun _ => rfl
  have base := r_comp (Wx := Wx) (ex := ex) (mu := mu) (pos := pos) hc hN (r_iseq (Wx := Wx) (ex := ex) (r_var (κ := kxOf X ex) hv)) ok hgx hg ht he hs
  have lock := pe_lock (pe_lc (pos := pos) hc hN (pi_keys (tg := tg) hv) ok hg ht he hs)
  refine ⟨fun pins s σ H Q I hw => ?_⟩
  obtain ⟨w, env, st, hE, hH, hp⟩ := hw
  have alt : PostG (kxOf X ex) Wx σ w (mComp mu (iSeq (mVar i)) g (own.map (·.2)) t m env st) (CV (kxOf X ex) Q) → wpAny (model X.prog X.w) X.A (eval (.ListComp elt [⟨tg, .Name x p, ifs, 0⟩] scope pos) X.env) (EP X pins σ Q) X.xe s := fun h => base.run pins s σ H Q I ⟨w, env, st, hE, hH, h⟩
  unfold mCompV at hp
  split at hp
  · rename_i n qn
    split at hp
    · rename_i kvs qd
      split at hp
      · rename_i ks qk
        split at hp
        · rename_i ds qc
          split at hp
          · rename_i xs qx
            have en : env[i]? = some (some (.loc n)) := by
              cases z : env[i]? with
              | none => rw [z] at qn; cases qn
              | some o => rw [z] at qn; have q' : o = some (.loc n) := qn; rw [q']
            obtain ⟨v, hv1, a, rfl, ha⟩ := hE.2 i _ en
            obtain ⟨ob, hob, vs, rfl, hk1, hk2⟩ := hH.obs n a _ ha qd
            have hkk : vs.map (·.1) = ks.map fun k => k.map Sum.inl := by rw [hk1]; exact dKeys_eq qk
            have maL : a ∈ w.L := List.mem_of_getElem? ha
            have eds := pures_eq qx
            subst eds
            refine lock.run pins s σ H Q I ⟨a, .dT vs, hob, True.intro, fun od => ?_⟩
            classical
            let Tk : Hp := fun b => if b = a then some (.frz od (.dT vs)) else if b ∈ w.L then H b else w.T b
            let wk : Wd := ⟨w.W, [], Tk⟩
            have Ta : Tk a = some (.frz od (.dT vs)) := if_pos rfl
            have TL : ∀ b, b ≠ a → b ∈ w.L → Tk b = H b := fun b h1 h2 => by show (if b = a then _ else if b ∈ w.L then _ else _) = _; rw [if_neg h1, if_pos h2]
            have TT : ∀ b, b ≠ a → b ∉ w.L → Tk b = w.T b := fun b h1 h2 => by show (if b = a then _ else if b ∈ w.L then _ else _) = _; rw [if_neg h1, if_neg h2]
            have hk0 : HoldK (kxOf X ex) wk [] (upd H a (.frz od (.dT vs))) := by
              refine ⟨fun b o e => ?_, rfl, fun n b c e1 e2 => (by simp at e2), List.nodup_nil, fun b m => (by cases m), fun n b e => (by simp at e), fun b o e => ?_, fun b o e => ⟨?_, List.not_mem_nil⟩, fun b ys e => ?_⟩
              · obtain ⟨e1, e2⟩ := hH.imm b o e
                have nb : b ≠ a := fun z => by
                  subst z
                  have e' : w.W b = some o := e
                  rw [hH.ap b maL] at e'
                  cases e'
                exact ⟨by rw [upd_ne nb]; exact e1, e2⟩
              · have e' : Tk b = some o := e
                by_cases h1 : b = a
                · subst h1
                  rw [Ta] at e'
                  rw [upd_same]
                  exact e'
                · rw [upd_ne h1]
                  by_cases h2 : b ∈ w.L
                  · rw [TL b h1 h2] at e'; exact e'
                  · rw [TT b h1 h2] at e'; exact hH.tmp b o e'
              · have e' : Tk b = some o := e
                show w.W b = none
                by_cases h1 : b = a
                · subst h1; exact hH.ap b maL
                · by_cases h2 : b ∈ w.L
                  · exact hH.ap b h2
                  · rw [TT b h1 h2] at e'; exact (hH.tw b o e').1
              · have e' : Tk b = some (.tup ys) := e
                by_cases h1 : b = a
                · subst h1
                  rw [Ta] at e'
                  cases e'
                · by_cases h2 : b ∈ w.L
                  · rw [TL b h1 h2] at e'
                    obtain ⟨j, hj⟩ := List.mem_iff_getElem?.mp h2
                    have hl : j < st.length := by rw [← hH.len]; exact (List.getElem?_eq_some_iff.mp hj).1
                    obtain ⟨o2, o3, o4⟩ := hH.obs j b st[j] hj (List.getElem?_eq_getElem hl)
                    rw [e'] at o3
                    cases o3
                    exact o4.notTup.1 ⟨ys, rfl⟩
                  · rw [TT b h1 h2] at e'
                    exact hH.tt b ys e'
            refine ⟨.ref a, hv1, a, od, rfl, .inr ⟨vs, upd_same, fun D nD => ?_⟩⟩
            have nT : Tk D = none := by
              cases q : Tk D with
              | none => rfl
              | some o => rw [hk0.tmp D o q] at nD; cases nD
            have hEk : RelE (kxOf X ex) wk (pureE env) σ := pureE_rel hE rfl
            unfold compR at qc
            have qs : srcLen (.fix (ks.map fun k => Fw.D.p (tupI k))) [] = some ks.length := by
              show some (ks.map fun k => Fw.D.p (tupI k)).length = _
              rw [List.length_map]
            rw [qs] at qc
            simp only at qc
            split at qc
            · rename_i hcap
              refine comp_loop (κ := kxOf X ex) (Wy := Wx) (σx := σ) (w1 := wk) (w := wk.tmp (upd Tk D (.lst []))) (T0 := Tk) (us0 := []) (ds0 := []) (st0 := []) (n := ks.length) (c := 1) (env := pureE env) (S := fun b => if b = a then some (.frz od (.dT vs)) else none)
                (C := fun r st2 w2 H2 => st2 = [] ∧ r = xs.map Fw.D.p) hgx (serves_keys hkk (if_pos rfl)) (fun b o e => ?_) nT (body_plain nT) hEk ⟨Wd.lc_tmp, rfl, Hold.tmp_new hk0 nD (fun _ z => nomatch z), .nil⟩ (by simp; omega) ?_ fun st4 w4 H4 ds4 us4 lc4 sd4 _ hq => ?_
              · split at e
                · rename_i hb; subst hb; cases e; exact Ta
                · cases e
              · rw [qc]
                exact fun w' H' _ _ => ⟨rfl, rfl⟩
              · obtain ⟨rfl, rfl⟩ := hq
                have t4 := sd4.t
                have h4 := sd4.h
                have neD : ∀ b, (∃ o, Tk b = some o) → b ≠ D := fun b ⟨o, e⟩ z => by rw [z, nT] at e; cases e
                have tT : ∀ b o, Tk b = some o → w4.T b = some o := fun b o e => by rw [t4, upd_ne (neD b ⟨o, e⟩)]; exact e
                have hD4 : w4.T D = some (.lst us4) := by rw [t4, upd_same]
                have e4a : H4 a = some (.frz od (.dT vs)) := h4.tmp a _ (tT a _ Ta)
                have aD : a ≠ D := neD a ⟨_, Ta⟩
                refine ⟨e4a, ?_⟩
                have lw : ∀ b o, w.W b = some o → w4.W b = some o ∧ b ≠ D := fun b o e => by
                  refine ⟨lc4.W b o (show wk.W b = some o from e), fun z => ?_⟩
                  have := (hk0.imm b o e).1
                  rw [z, nD] at this
                  cases this
                have hLH : ∀ b ∈ w.L, ∃ o, Tk b = some o := fun b hb => by
                  by_cases h1 : b = a
                  · subst h1; exact ⟨_, Ta⟩
                  · obtain ⟨j, hj⟩ := List.mem_iff_getElem?.mp hb
                    have hl : j < st.length := by rw [← hH.len]; exact (List.getElem?_eq_some_iff.mp hj).1
                    obtain ⟨o2, o3, _⟩ := hH.obs j b st[j] hj (List.getElem?_eq_getElem hl)
                    exact ⟨o2, by rw [TL b h1 hb]; exact o3⟩
                let w5 : Wd := ⟨upd w4.W D (.lst us4), w.L, w.T⟩
                have le5 : w.Le w5 := ⟨⟨fun b o e => by
                  show upd w4.W D _ b = _
                  rw [upd_ne (lw b o e).2]
                  exact (lw b o e).1, [], by simp [w5]⟩, rfl⟩
                have h5 : HoldK (kxOf X ex) w5 st (upd H4 a (.dT vs)) := by
                  refine ⟨fun b o e => ?_, hH.len, fun j b c e1 e2 => ?_, hH.nd, fun b m => ?_, hH.wf, fun b o e => ?_, fun b o e => ⟨?_, (hH.tw b o e).2⟩, hH.tt⟩
                  · have e' : upd w4.W D (.lst us4) b = some o := e
                    by_cases h1 : b = D
                    · subst h1
                      rw [upd_same] at e'
                      cases e'
                      exact ⟨by rw [upd_ne (Ne.symm aD)]; exact h4.tmp _ _ hD4, True.intro⟩
                    · rw [upd_ne h1] at e'
                      obtain ⟨e1, e2⟩ := h4.imm b o e'
                      have nb : b ≠ a := fun z => by
                        subst z
                        rw [(h4.tw b _ (tT b _ Ta)).1] at e'
                        cases e'
                      exact ⟨by rw [upd_ne nb]; exact e1, e2⟩
                  · obtain ⟨o2, o3, o4⟩ := hH.obs j b c e1 e2
                    refine ⟨o2, ?_, o4.mono le5.toLc⟩
                    by_cases h1 : b = a
                    · subst h1
                      rw [hob] at o3
                      cases o3
                      rw [upd_same]
                    · rw [upd_ne h1]
                      exact h4.tmp b o2 (tT b o2 (by rw [TL b h1 (List.mem_of_getElem? e1)]; exact o3))
                  · show upd w4.W D _ b = none
                    obtain ⟨o, ho⟩ := hLH b m
                    rw [upd_ne (neD b ⟨o, ho⟩)]
                    exact (h4.tw b o (tT b o ho)).1
                  · have nL := (hH.tw b o e).2
                    have nb : b ≠ a := fun z => nL (by rw [z]; exact maL)
                    rw [upd_ne nb]
                    exact h4.tmp b o (tT b o (by rw [TT b nb nL]; exact e))
                  · have nL := (hH.tw b o e).2
                    have nb : b ≠ a := fun z => nL (by rw [z]; exact maL)
                    have tb : Tk b = some o := by rw [TT b nb nL]; exact e
                    show upd w4.W D _ b = none
                    rw [upd_ne (neD b ⟨o, tb⟩)]
                    exact (h4.tw b o (tT b o tb)).1
                refine hp w5 _ le5 h5 _ (.lst (SqL.of upd_same) ?_)
                exact Dp.monoA (fun b o e => by
                  show upd w4.W D _ b = _
                  rw [upd_ne (fun z => by
                    subst z
                    rw [(h4.tw _ _ hD4).1] at e
                    cases e)]
                  exact e) _ _ sd4.rl.pure
            · cases qc
          · exact hp.elim
        · exact hp.elim
      · exact hp.elim
    · exact alt hp
  · exact alt hp
end
end Fw

set_option maxRecDepth 100000
set_option maxHeartbeats 4000000
namespace Fw
open PySem PySem.Spec PyProof.Rows L2

/-! ## from a text to its computation -/
structure Tr where
  E : Ck → Expr → Option (Env' → M D)
  T : Ck → Expr → Option (Env' → M Bool)
  W : Ck → BoolOp → List Expr → Option (Env' → M Bool)
  V : Ck → BoolOp → List Expr → Option (Env' → M D)
  A : Ck → List Expr → Option (Env' → M (List D))
  I : Ck → Expr → Expr → Option (Env' → M Src)
  O : Ck → Option Expr → Option (Env' → M (Option Int))
  G : Ck → Expr → Option G
  L : Ck → List Expr → Option Gs
structure Tr.Ok (t : Tr) : Prop where
  E : ∀ {C X ex k Wx e m}, Good C X ex k Wx → t.E C e = some m → PE X e (rdE (kxOf X ex) m Wx)
  T : ∀ {C X ex k Wx e m}, Good C X ex k Wx → t.T C e = some m → PT X e (rdT (kxOf X ex) m Wx)
  W : ∀ {C X ex k Wx op es m}, Good C X ex k Wx → t.W C op es = some m → ∀ pos, PW X (.BoolOp op es pos) (rdT (kxOf X ex) m Wx)
  V : ∀ {C X ex k Wx op es m}, Good C X ex k Wx → t.V C op es = some m → ∀ pos, PE X (.BoolOp op es pos) (rdE (kxOf X ex) m Wx)
  A : ∀ {C X ex k Wx es m}, Good C X ex k Wx → t.A C es = some m → PA X es (rdA (kxOf X ex) m Wx)
  I : ∀ {C X ex k Wx tg e m}, Good C X ex k Wx → t.I C tg e = some m → PI X tg e (rdI (kxOf X ex) m Wx)
  O : ∀ {C X ex k Wx e m}, Good C X ex k Wx → t.O C e = some m → PO X e (rdO (kxOf X ex) m Wx)
  G : ∀ {C X ex k Wx e m}, Good C X ex k Wx → t.G C e = some m → PG X e (rdG (kxOf X ex) m)
  L : ∀ {C X ex k Wx e m}, Good C X ex k Wx → t.L C e = some m → PGs X e (rdGs (kxOf X ex) m) ∧ (∀ env, (assignEach e env).length = m.len ∧ (assignEach e env).findIdx? (·.1) = none)
def nStar (es : List Expr) : Bool := es.all nst
theorem asg1 {e : Expr} {es : List Expr} {env : Env} (h : nst e = true) : assignEach (e :: es) env = (false, assign e env) :: assignEach es env := by
  cases e <;> first | rfl | cases h
/-- the block of a comprehension -/
def ownOf (N : List Str) (s : Scope) : List (Str × Nat) := s.names.filterMap fun q => match q.2 with
  | .local => (ixOf N q.1).map fun i => (q.1, i)
  | .cell => (ixOf N q.1).map fun i => (q.1, i)
  | _ => none
def Ck.inner (C : Ck) (s : Scope) : Ck := { C with sc := relS s C.sc, blk := some s }
theorem Good.inner {C : Ck} {X : Cx} {ex : Nat → Addr} {k : Nat} {Wx : WX} (G : Good C X ex k Wx) (scope : Scope) (s : Shared) (H : Hp) (A : Addr) (cl : List (Str × Addr)) (fp : List Addr) : Good (C.inner scope) (X.blk s H scope (compEnvC scope cl A X.env) fp) ex k FW :=
  ⟨G.calm, G.N, G.nd, by
    show relS scope X.env.scope = relS scope C.sc
    rw [G.sc], rfl, G.free, G.glo, fun x q h => by
    obtain ⟨ps, h1, h2⟩ := G.funs x q h
    exact ⟨ps, h1, ⟨h2.at_⟩⟩, fun x c h => ⟨(G.exs x c h).g, (G.exs x c h).k, (G.exs x c h).e, (G.exs x c h).r⟩, G.isa, takes0, G.room, G.nt⟩
def muB (C : Ck) (pos : Pos) : Bool := decide (pos.line * 1000 + pos.col ∈ C.mu)
def isN : Expr → Option Str
  | .Name x _ => some x
  | _ => none
def mth1 (name : Str) : Option (D → List D → Sto → Option (D × Sto)) := if name = "pop" then some popAtG else if name = "append" then some appendG else none
def ifs (t : Tr) (C : Ck) : List Expr → Option (Env' → M Bool)
  | [] => some tTr
  | [c] => t.T C c
  | _ => none
def stepE (t : Tr) (C : Ck) : Expr → Option (Env' → M D)
  | .Constant (.int i) _ _ => some (mC (.int i))
  | .Constant (.bool b) _ _ => some (mC (.bool b))
  | .Constant (.str z) _ _ => some (mC (.str z))
  | .Constant .none _ _ => some (mC .none)
  | .Name x _ => if visB C x = true then (ixOf C.N x).map mVar else if glB C x = true then (C.glo.lookup x).map mC else none
  | .BinOp a op b _ => do let ma ← t.E C a; let mb ← t.E C b; let g ← binG op; some (m2 ma mb g)
  | .UnaryOp .USub a _ => do let ma ← t.E C a; some (m1 ma (lift1 1 negP))
  | .UnaryOp .Not a _ => do let ma ← t.E C a; some (mNot ma)
  | .Compare a [op] [b] _ => if nSet b = true then do let ma ← t.E C a; let mb ← t.E C b; let g ← cmpG op; some (m2 ma mb g) else none
  | .BoolOp op es _ => t.V C op es
  | .IfExp c a b _ => do let tc ← t.T C c; let ma ← t.E C a; let mb ← t.E C b; some (mIf tc ma mb)
  | .Tuple es _ _ => do let ms ← t.A C es; some (mL ms gTupD)
  | .List es pos => do let ms ← t.A C es; some (if muB C pos = true then mL ms gMutD else mL ms gLstD)
  | .Dict [] [] _ => some mNewD
  | .Subscript a (.Slice lo hi none _) _ => do let ma ← t.E C a; let ml ← t.O C lo; let mh ← t.O C hi; some (mSl ma ml mh)
  | .Subscript a b _ => if nSl b = true then do let ma ← t.E C a; let mb ← t.E C b; some (m2 ma mb ixG) else none
  | .Call (.Name x _) [a, .Name y p2] [] pos =>
    if x = "isinstance" then (if frB C x = true ∧ frB C y = true ∧ nst a = true then do let c ← clOf y; let ma ← t.E C a; some (m1 ma (lift1 3 (isiP c))) else none)
    else if nStar [a, .Name y p2] = true then (match C.funs.lookup x with
      | some q => if glB C x = true then do let ms ← t.A C [a, .Name y p2]; some (mCall ms (sized q.1 q.2)) else none
      | none => if frB C x = true then do let g ← bu2 x; let ms ← t.A C [a, .Name y p2]; some (mL ms g) else none) else none
  | .Call (.Name x _) (a :: es) [] pos =>
    if nStar (a :: es) = true then (match C.funs.lookup x with
      | some q => if glB C x = true then do let ms ← t.A C (a :: es); some (mCall ms (sized q.1 q.2)) else none
      | none => if frB C x = true then do let g ← (if es.length = 0 then bu1 x else bu2 x); let ms ← t.A C (a :: es); some (mL ms g) else none) else none
  | .Call (.Attribute o name apos) [a] [] cpos => if nCl o = true ∧ nst a = true ∧ (apos.endLine == cpos.line) = true then do let mo ← t.E C o; let ms ← t.A C [a]; let g ← mth1 name; some (mMth mo ms g) else none
  | .ListComp elt [⟨tg, .Name x p, fs, 0⟩] scope pos => if visB C x = true ∧ blkC C.N C.sc scope (ownOf C.N scope) = true then do
      let i ← ixOf C.N x
      let g ← t.G (C.inner scope) tg
      let tc ← ifs t (C.inner scope) fs
      let m ← t.E (C.inner scope) elt
      if ((gIx g).all fun i => decide (i ∈ (ownOf C.N scope).map (·.2))) = true then some (mCompV (muB C pos) i g ((ownOf C.N scope).map (·.2)) tc m) else none
    else none
  | .ListComp elt [⟨tg, iter, fs, 0⟩] scope pos => if nSet iter = true ∧ blkC C.N C.sc scope (ownOf C.N scope) = true then do
      let mi ← t.I C tg iter
      let g ← t.G (C.inner scope) tg
      let tc ← ifs t (C.inner scope) fs
      let m ← t.E (C.inner scope) elt
      if ((gIx g).all fun i => decide (i ∈ (ownOf C.N scope).map (·.2))) = true then some (mComp (muB C pos) mi g ((ownOf C.N scope).map (·.2)) tc m) else none
    else none
  | .ListComp elt [⟨tg, iter, fs, 0⟩, ⟨tg1, iter1, fs1, 0⟩] scope pos => if nSet iter = true ∧ nSet iter1 = true ∧ blkC C.N C.sc scope (ownOf C.N scope) = true then do
      let mi ← t.I C tg iter
      let g ← t.G (C.inner scope) tg
      let tc ← ifs t (C.inner scope) fs
      let mi1 ← t.I (C.inner scope) tg1 iter1
      let g1 ← t.G (C.inner scope) tg1
      let tc1 ← ifs t (C.inner scope) fs1
      let m ← t.E (C.inner scope) elt
      if ((gIx g).all fun i => decide (i ∈ (ownOf C.N scope).map (·.2))) = true ∧ ((gIx g1).all fun i => decide (i ∈ (ownOf C.N scope).map (·.2))) = true then some (mComp2 (muB C pos) mi g ((ownOf C.N scope).map (·.2)) tc mi1 g1 (gIx g1) tc1 m) else none
    else none
  | _ => none
def stepT (t : Tr) (C : Ck) : Expr → Option (Env' → M Bool)
  | .UnaryOp .Not a _ => do let ta ← t.T C a; some (tNt ta)
  | .BoolOp op es _ => t.W C op es
  | .Compare a [op] [b] _ => if nSet b = true then do let ma ← t.E C a; let mb ← t.E C b; let g ← cmpG op; some (tB (m2 ma mb g)) else none
  | e => if tvB e = true then do let m ← t.E C e; some (tV m) else none
def stepW (t : Tr) (C : Ck) : BoolOp → List Expr → Option (Env' → M Bool)
  | _, [a] => t.T C a
  | .And, a :: b :: r => do let ta ← t.T C a; let tb ← t.W C .And (b :: r); some (tAn ta tb)
  | .Or, a :: b :: r => do let ta ← t.T C a; let tb ← t.W C .Or (b :: r); some (tOrr ta tb)
  | _, _ => none
def stepV (t : Tr) (C : Ck) : BoolOp → List Expr → Option (Env' → M D)
  | _, [a] => t.E C a
  | .And, a :: b :: r => do let ta ← t.E C a; let tb ← t.V C .And (b :: r); some (mAnd ta tb)
  | .Or, a :: b :: r => do let ta ← t.E C a; let tb ← t.V C .Or (b :: r); some (mOr ta tb)
  | _, _ => none
def stepA (t : Tr) (C : Ck) : List Expr → Option (Env' → M (List D))
  | [] => some aNil
  | a :: r => if nst a = true then do let m ← t.E C a; let ms ← t.A C r; some (aCons m ms) else none
def stepI (t : Tr) (C : Ck) (tg : Expr) : Expr → Option (Env' → M Src)
  | .Call (.Name x p) [a] [] pos => if x = "range" ∧ frB C x = true then (if nst a = true then do let ms ← t.A C [a]; some (iArgs ms rng1) else none) else do let m ← t.E C (.Call (.Name x p) [a] [] pos); some (iSeq m)
  | .Call (.Name x p) [a, b] [] pos => if x = "range" ∧ frB C x = true then (if nst a = true ∧ nst b = true then do let ms ← t.A C [a, b]; some (iArgs ms rng2) else none)
    else if x = "zip" ∧ frB C x = true then (match tg with
      | .Tuple _ _ _ => if nst a = true ∧ nst b = true then do let ms ← t.A C [a, b]; some (iArgs ms zip2) else none
      | _ => none)
    else do let m ← t.E C (.Call (.Name x p) [a, b] [] pos); some (iSeq m)
  | e => do let m ← t.E C e; some (iSeq m)
def stepO (t : Tr) (C : Ck) : Option Expr → Option (Env' → M (Option Int))
  | none => some oNone
  | some a => do let m ← t.E C a; some (oSome m)
def stepG (t : Tr) (C : Ck) : Expr → Option G
  | .Name x _ => if asgB C x = true then (ixOf C.N x).map .nm else none
  | .Tuple es _ _ => (t.L C es).map .tp
  | _ => none
def stepL (t : Tr) (C : Ck) : List Expr → Option Gs
  | [] => some .nil
  | a :: r => if nst a = true then do let g ← t.G C a; let gs ← t.L C r; some (.cons g gs) else none
def tr : Nat → Tr
  | 0 => ⟨fun _ _ => none, fun _ _ => none, fun _ _ _ => none, fun _ _ _ => none, fun _ _ => none, fun _ _ _ => none, fun _ _ => none, fun _ _ => none, fun _ _ => none⟩
  | n + 1 => ⟨stepE (tr n), stepT (tr n), stepW (tr n), stepV (tr n), stepA (tr n), stepI (tr n), stepO (tr n), stepG (tr n), stepL (tr n)⟩
theorem bnd2 {α β : Type} {o : Option α} {f : α → Option β} {b : β} (h : (o >>= f) = some b) : ∃ a, o = some a ∧ f a = some b := Option.bind_eq_some_iff.mp h
section
variable {t : Tr} {C : Ck} {X : Cx} {ex : Nat → Addr} {k : Nat} {Wx : WX}
theorem all_mem {g : G} {own : List Nat} (h : ((gIx g).all fun i => decide (i ∈ own)) = true) : ∀ i ∈ gIx g, i ∈ own := fun i hi => of_decide_eq_true (List.all_eq_true.mp h i hi)
theorem ifs_ok (T : t.Ok) (G : Good C X ex k Wx) {fs : List Expr} {m : Env' → M Bool} (h : ifs t C fs = some m) : PTs X fs (rdT (kxOf X ex) m Wx) := by
  unfold ifs at h
  split at h
  · cases h; exact r_ts0
  · exact r_ts1 (T.T G h)
  · cases h
theorem stepA_ok (T : t.Ok) (G : Good C X ex k Wx) {es : List Expr} {m : Env' → M (List D)} (h : stepA t C es = some m) : PA X es (rdA (kxOf X ex) m Wx) := by
  unfold stepA at h
  split at h
  · cases h; exact r_nil
  · rename_i a r
    split at h
    · rename_i hn
      obtain ⟨ma, h1, h⟩ := bnd2 h
      obtain ⟨ms, h2, h⟩ := bnd2 h
      cases h
      exact r_cons (T.E G h1) (T.A G h2) (star1 hn)
    · cases h
theorem stepW_ok (T : t.Ok) (G : Good C X ex k Wx) {op : BoolOp} {es : List Expr} {m : Env' → M Bool} (h : stepW t C op es = some m) (pos : Pos) : PW X (.BoolOp op es pos) (rdT (kxOf X ex) m Wx) := by
  match op, es, h with
  | .And, [a], h => exact pw_and1 (T.T G h)
  | .Or, [a], h => exact pw_or1 (T.T G h)
  | .And, a :: b :: r, h =>
    obtain ⟨ta, h1, h⟩ := bnd2 h
    obtain ⟨tb, h2, h⟩ := bnd2 h
    cases h
    exact r_and (T.T G h1) (T.W G h2 pos)
  | .Or, a :: b :: r, h =>
    obtain ⟨ta, h1, h⟩ := bnd2 h
    obtain ⟨tb, h2, h⟩ := bnd2 h
    cases h
    exact r_or (T.T G h1) (T.W G h2 pos)
  | .And, [], h => cases h
  | .Or, [], h => cases h
theorem stepV_ok (T : t.Ok) (G : Good C X ex k Wx) {op : BoolOp} {es : List Expr} {m : Env' → M D} (h : stepV t C op es = some m) (pos : Pos) : PE X (.BoolOp op es pos) (rdE (kxOf X ex) m Wx) := by
  match op, es, h with
  | .And, [a], h => exact pe_one (T.E G h)
  | .Or, [a], h => exact pe_one (T.E G h)
  | .And, a :: b :: r, h =>
    obtain ⟨ta, h1, h⟩ := bnd2 h
    obtain ⟨tb, h2, h⟩ := bnd2 h
    cases h
    exact r_eand (T.E G h1) (T.V G h2 pos)
  | .Or, a :: b :: r, h =>
    obtain ⟨ta, h1, h⟩ := bnd2 h
    obtain ⟨tb, h2, h⟩ := bnd2 h
    cases h
    exact r_eor (T.E G h1) (T.V G h2 pos)
  | .And, [], h => cases h
  | .Or, [], h => cases h
theorem stepO_ok (T : t.Ok) (G : Good C X ex k Wx) {e : Option Expr} {m : Env' → M (Option Int)} (h : stepO t C e = some m) : PO X e (rdO (kxOf X ex) m Wx) := by
  cases e with
  | none => cases h; exact r_onone
  | some a =>
    obtain ⟨ma, h1, h⟩ := bnd2 h
    cases h
    exact r_osome (T.E G h1)
theorem stepG_ok (T : t.Ok) (G : Good C X ex k Wx) {e : Expr} {g : Fw.G} (h : stepG t C e = some g) : PG X e (rdG (kxOf X ex) g) := by
  unfold stepG at h
  split at h
  · rename_i x p
    split at h
    · rename_i ha
      cases q : ixOf C.N x with
      | none => rw [q] at h; cases h
      | some i =>
        rw [q] at h
        cases h
        obtain ⟨h1, h2⟩ := asgB_ok G ha
        exact r_gname (pg_name (by rw [G.N]; exact G.nd) (by rw [G.N]; exact ixOf_ok q) h1 h2)
    · cases h
  · rename_i es n p
    cases q : t.L C es with
    | none => rw [q] at h; cases h
    | some gs =>
      rw [q] at h
      cases h
      obtain ⟨h1, h2⟩ := T.L G q
      exact r_gtup G.calm h1 (h2 _).1 (h2 _).2
  · cases h
theorem stepL_ok (T : t.Ok) (G : Good C X ex k Wx) {es : List Expr} {g : Gs} (h : stepL t C es = some g) : PGs X es (rdGs (kxOf X ex) g) ∧ (∀ env, (assignEach es env).length = g.len ∧ (assignEach es env).findIdx? (·.1) = none) := by
  unfold stepL at h
  split at h
  · cases h; exact ⟨r_gnil, fun env => ⟨rfl, rfl⟩⟩
  · rename_i a r
    split at h
    · rename_i hn
      obtain ⟨g1, h1, h⟩ := bnd2 h
      obtain ⟨gs, h2, h⟩ := bnd2 h
      cases h
      obtain ⟨q1, q2⟩ := T.L G h2
      refine ⟨r_gcons (T.G G h1) q1 (by rw [asg1 hn]; rfl), fun env => ⟨?_, ?_⟩⟩
      · rw [asg1 hn]
        show (assignEach r env).length + 1 = gs.len + 1
        rw [(q2 env).1]
      · rw [asg1 hn, List.findIdx?_cons, (q2 env).2]
        rfl
    · cases h
theorem stepI_ok (T : t.Ok) (G : Good C X ex k Wx) {tg e : Expr} {m : Env' → M Src} (h : stepI t C tg e = some m) : PI X tg e (rdI (kxOf X ex) m Wx) := by
  have seq : ∀ {e : Expr} {m : Env' → M Src}, (do let m ← t.E C e; some (iSeq m)) = some m → PI X tg e (rdI (kxOf X ex) m Wx) := fun {e m} h => by
    obtain ⟨ma, h1, h⟩ := bnd2 h
    cases h
    exact r_iseq (T.E G h1)
  unfold stepI at h
  split at h
  · rename_i x p a pos
    split at h
    · rename_i hx
      obtain ⟨rfl, hx⟩ := hx
      obtain ⟨g1, g2, _, _⟩ := frB_ok G hx
      split at h
      · rename_i hn
        obtain ⟨ms, h1, h⟩ := bnd2 h
        cases h
        exact r_rng1 g1 g2 (T.A G h1) (by rw [star1 hn]; rfl)
      · cases h
    · exact seq h
  · rename_i x p a b pos
    split at h
    · rename_i hx
      obtain ⟨rfl, hx⟩ := hx
      obtain ⟨g1, g2, _, _⟩ := frB_ok G hx
      split at h
      · rename_i hn
        obtain ⟨ms, h1, h⟩ := bnd2 h
        cases h
        exact r_rng2 g1 g2 (T.A G h1) (by rw [star1 hn.1, star1 hn.2]; rfl) (by rw [star1 hn.2]; rfl)
      · cases h
    · split at h
      · rename_i hx
        obtain ⟨rfl, hx⟩ := hx
        obtain ⟨g1, g2, _, _⟩ := frB_ok G hx
        split at h
        · split at h
          · rename_i hn
            obtain ⟨ms, h1, h⟩ := bnd2 h
            cases h
            exact r_zip g1 g2 (T.A G h1) (star1 hn.1) (stars (by rw [List.all_cons, hn.2]; rfl))
          · cases h
        · cases h
      · exact seq h
  · exact seq h
theorem stepT_ok (T : t.Ok) (G : Good C X ex k Wx) {e : Expr} {m : Env' → M Bool} (h : stepT t C e = some m) : PT X e (rdT (kxOf X ex) m Wx) := by
  unfold stepT at h
  split at h
  · obtain ⟨ta, h1, h⟩ := bnd2 h
    cases h
    exact r_not (T.T G h1)
  · exact (T.W G h _).pt
  · split at h
    · rename_i hn
      obtain ⟨ma, h1, h⟩ := bnd2 h
      obtain ⟨mb, h2, h⟩ := bnd2 h
      obtain ⟨g, h3, h⟩ := bnd2 h
      cases h
      exact r_tcmp (cmpG_ok G.room.units h3) (T.E G h1) (T.E G h2) (mark_no hn)
    · cases h
  · split at h
    · rename_i hv
      obtain ⟨ma, h1, h⟩ := bnd2 h
      cases h
      exact r_tv (T.E G h1) (tv_ok hv)
    · cases h
theorem call_ok (T : t.Ok) (G : Good C X ex k Wx) {x : Str} {a : Expr} {es : List Expr} {pos p : Pos} {q : Nat × (List D → M D)} {ms : Env' → M (List D)} (hn : nStar (a :: es) = true) (hq : C.funs.lookup x = some q) (hg : glB C x = true) (ha : t.A C (a :: es) = some ms) :
    PE X (.Call (.Name x p) (a :: es) [] pos) (rdE (kxOf X ex) (mCall ms (sized q.1 q.2)) Wx) := by
  obtain ⟨ps, h1, F⟩ := G.funs x q hq
  obtain ⟨g1, g2, g3⟩ := glB_ok G hg
  unfold nStar at hn
  rw [List.all_cons, Bool.and_eq_true] at hn
  rw [← h1]
  exact r_call F G.tk G.room g1 (T.A G ha) g2 (star1 hn.1) (stars hn.2)
theorem few1 {a : Expr} {env : Env} {cpos : Pos} (h : nst a = true) : ((backTo cpos (starEach [a] env)).all (fun x => !x.1) && (backToKw cpos (keywordEach [] env)).all (fun x => x.1.isSome)
      && decide (([a] : List Expr).length + ([] : List Keyword).length + (if ([] : List Keyword).isEmpty then 0 else 1) < 30)) = true := by
  rw [star1 h]
  rfl
theorem mth1_ok (G : Good C X ex k Wx) (T : t.Ok) {name : Str} {g : D → List D → Sto → Option (D × Sto)} (h : mth1 name = some g) {o a : Expr} {mo : Env' → M D} {ms : Env' → M (List D)} {apos cpos : Pos} (ho : PE X o (rdE (kxOf X ex) mo Wx)) (ha : PA X [a] (rdA (kxOf X ex) ms Wx)) (hb : nCl o = true) (hn : nst a = true) (hl : (apos.endLine == cpos.line) = true) :
    PE X (.Call (.Attribute o name apos) [a] [] cpos) (rdE (kxOf X ex) (mMth mo ms g) Wx) := by
  unfold mth1 at h
  by_cases q : name = "pop"
  · rw [if_pos q] at h
    cases h
    subst q
    exact r_mth PySem.F.plainAttrs_list PySem.F.slot_list_pop PySem.F.type_list_pop m_popAt ho ha (base_no hb) (few1 hn) hl (star1 hn) rfl
  · rw [if_neg q] at h
    by_cases q2 : name = "append"
    · rw [if_pos q2] at h
      cases h
      subst q2
      exact r_mth PySem.F.plainAttrs_list PySem.F.slot_list_append PySem.F.type_list_append m_append ho ha (base_no hb) (few1 hn) hl (star1 hn) rfl
    · rw [if_neg q2] at h
      cases h
theorem stepE_ok (T : t.Ok) (G : Good C X ex k Wx) {e : Expr} {m : Env' → M D} (h : stepE t C e = some m) : PE X e (rdE (kxOf X ex) m Wx) := by
  unfold stepE at h
  split at h
  · cases h; exact r_con pe_int fun W => .int _
  · cases h; exact r_con pe_bl fun W => .bl _
  · cases h; exact r_con pe_str fun W => .str _
  · cases h; exact r_con pe_non fun W => .non
  · rename_i x p
    split at h
    · rename_i hv
      obtain ⟨g1, g2, g3⟩ := visB_ok G hv
      cases q : ixOf C.N x with
      | none => rw [q] at h; cases h
      | some i =>
        rw [q] at h
        cases h
        exact r_var (pe_var (by rw [G.N]; exact ixOf_ok q) g1 g2 g3)
    · split at h
      · rename_i hg
        obtain ⟨g1, g2, g3⟩ := glB_ok G hg
        cases q : C.glo.lookup x with
        | none => rw [q] at h; cases h
        | some d =>
          rw [q] at h
          cases h
          obtain ⟨u, v, e1, e2, e3⟩ := G.glo x d q
          exact r_con (pe_glob g1 e1 e2 g2) e3
      · cases h
  · obtain ⟨ma, h1, h⟩ := bnd2 h
    obtain ⟨mb, h2, h⟩ := bnd2 h
    obtain ⟨g, h3, h⟩ := bnd2 h
    cases h
    exact r_bin (binG_ok h3) (T.E G h1) (T.E G h2)
  · obtain ⟨ma, h1, h⟩ := bnd2 h
    cases h
    exact r_un o_neg (T.E G h1)
  · obtain ⟨ma, h1, h⟩ := bnd2 h
    cases h
    exact r_enot (T.E G h1)
  · split at h
    · rename_i hn
      obtain ⟨ma, h1, h⟩ := bnd2 h
      obtain ⟨mb, h2, h⟩ := bnd2 h
      obtain ⟨g, h3, h⟩ := bnd2 h
      cases h
      exact r_cmp (cmpG_ok G.room.units h3) (T.E G h1) (T.E G h2) (mark_no hn)
    · cases h
  · exact T.V G h _
  · obtain ⟨tc, h1, h⟩ := bnd2 h
    obtain ⟨ma, h2, h⟩ := bnd2 h
    obtain ⟨mb, h3, h⟩ := bnd2 h
    cases h
    exact r_if (T.T G h1) (T.E G h2) (T.E G h3)
  · obtain ⟨ms, h1, h⟩ := bnd2 h
    cases h
    exact r_tup (T.A G h1)
  · obtain ⟨ms, h1, h⟩ := bnd2 h
    cases h
    split
    · exact r_mut (T.A G h1)
    · exact r_lst (T.A G h1)
  · cases h; exact r_newD
  · obtain ⟨ma, h1, h⟩ := bnd2 h
    obtain ⟨ml, h2, h⟩ := bnd2 h
    obtain ⟨mh, h3, h⟩ := bnd2 h
    cases h
    exact r_slice (T.E G h1) (T.O G h2) (T.O G h3)
  · split at h
    · rename_i hn
      obtain ⟨ma, h1, h⟩ := bnd2 h
      obtain ⟨mb, h2, h⟩ := bnd2 h
      cases h
      exact r_ix o_ix (T.E G h1) (T.E G h2) (plain_ix hn)
    · cases h
  · rename_i x p a y p2 pos
    split at h
    · rename_i hx
      subst hx
      split at h
      · rename_i hh
        obtain ⟨h1, h2, h3⟩ := hh
        obtain ⟨c, q1, h⟩ := bnd2 h
        obtain ⟨ma, q2, h⟩ := bnd2 h
        cases h
        obtain ⟨a1, a2, _, _⟩ := frB_ok G h1
        obtain ⟨b1, b2, b3, b4⟩ := frB_ok G h2
        exact r_isi a1 a2 b1 b2 (clOf_ok q1) b4 b3 (T.E G q2) (star1 h3)
      · cases h
    · split at h
      · rename_i hn
        split at h
        · rename_i q hq
          split at h
          · rename_i hg
            obtain ⟨ms, q2, h⟩ := bnd2 h
            cases h
            exact call_ok T G hn hq hg q2
          · cases h
        · split at h
          · rename_i hf
            obtain ⟨g, q1, h⟩ := bnd2 h
            obtain ⟨ms, q2, h⟩ := bnd2 h
            cases h
            exact bu2_ok G q1 (T.A G q2) hf hn
          · cases h
      · cases h
  · rename_i x p a es pos _
    split at h
    · rename_i hn
      split at h
      · rename_i q hq
        split at h
        · rename_i hg
          obtain ⟨ms, q2, h⟩ := bnd2 h
          cases h
          exact call_ok T G hn hq hg q2
        · cases h
      · split at h
        · rename_i hf
          obtain ⟨g, q1, h⟩ := bnd2 h
          obtain ⟨ms, q2, h⟩ := bnd2 h
          cases h
          split at q1
          · exact bu1_ok G q1 (T.A G q2) hf hn
          · exact bu2_ok G q1 (T.A G q2) hf hn
        · cases h
    · cases h
  · rename_i o name apos a cpos
    split at h
    · rename_i hh
      obtain ⟨h1, h2, h3⟩ := hh
      obtain ⟨mo, q1, h⟩ := bnd2 h
      obtain ⟨ms, q2, h⟩ := bnd2 h
      obtain ⟨g, q3, h⟩ := bnd2 h
      cases h
      exact mth1_ok G T q3 (T.E G q1) (T.A G q2) h1 h2 h3
    · cases h
  · rename_i elt tg x p fs scope pos
    split at h
    · rename_i hh
      obtain ⟨h1, h2⟩ := hh
      obtain ⟨i, q1, h⟩ := bnd2 h
      obtain ⟨g, q2, h⟩ := bnd2 h
      obtain ⟨tc, q3, h⟩ := bnd2 h
      obtain ⟨m, q4, h⟩ := bnd2 h
      split at h
      · rename_i hg
        cases h
        obtain ⟨g1, g2, g3⟩ := visB_ok G h1
        exact r_compV G.calm (by rw [G.N]; exact G.nd) (pe_var (by rw [G.N]; exact ixOf_ok q1) g1 g2 g3) (by rw [G.N, G.sc]; exact blkOk_by h2) (all_mem hg)
          (fun s H A cl fp => T.G (G.inner scope s H A cl fp) q2) (fun s H A cl fp => ifs_ok T (G.inner scope s H A cl fp) q3) (fun s H A cl fp => T.E (G.inner scope s H A cl fp) q4)
      · cases h
    · cases h
  · rename_i elt tg iter fs scope pos _
    split at h
    · rename_i hh
      obtain ⟨h1, h2⟩ := hh
      obtain ⟨mi, q1, h⟩ := bnd2 h
      obtain ⟨g, q2, h⟩ := bnd2 h
      obtain ⟨tc, q3, h⟩ := bnd2 h
      obtain ⟨m, q4, h⟩ := bnd2 h
      split at h
      · rename_i hg
        cases h
        exact r_comp G.calm (by rw [G.N]; exact G.nd) (T.I G q1) (by rw [G.N, G.sc]; exact blkOk_by h2) (all_mem hg)
          (fun s H A cl fp => T.G (G.inner scope s H A cl fp) q2) (fun s H A cl fp => ifs_ok T (G.inner scope s H A cl fp) q3) (fun s H A cl fp => T.E (G.inner scope s H A cl fp) q4) (fold_no h1)
      · cases h
    · cases h
  · rename_i elt tg iter fs tg1 iter1 fs1 scope pos
    split at h
    · rename_i hh
      obtain ⟨h1, h1', h2⟩ := hh
      obtain ⟨mi, q1, h⟩ := bnd2 h
      obtain ⟨g, q2, h⟩ := bnd2 h
      obtain ⟨tc, q3, h⟩ := bnd2 h
      obtain ⟨mi1, q5, h⟩ := bnd2 h
      obtain ⟨g1, q6, h⟩ := bnd2 h
      obtain ⟨tc1, q7, h⟩ := bnd2 h
      obtain ⟨m, q4, h⟩ := bnd2 h
      split at h
      · rename_i hg
        cases h
        exact r_comp2 G.calm (by rw [G.N]; exact G.nd) (T.I G q1) (by rw [G.N, G.sc]; exact blkOk_by h2) (all_mem hg.2) (all_mem hg.1) (fun i hi => hi)
          (fun s H A cl fp => T.G (G.inner scope s H A cl fp) q2) (fun s H A cl fp => ifs_ok T (G.inner scope s H A cl fp) q3)
          (fun s H A cl fp => T.I (G.inner scope s H A cl fp) q5) (fun s H A cl fp => T.G (G.inner scope s H A cl fp) q6) (fun s H A cl fp => ifs_ok T (G.inner scope s H A cl fp) q7)
          (fun s H A cl fp => T.E (G.inner scope s H A cl fp) q4) (fold_no h1) (fun env => fold_no h1')
      · cases h
    · cases h
  · cases h
theorem tr_ok : ∀ n : Nat, (tr n).Ok
  | 0 => ⟨fun _ h => (nomatch h), fun _ h => (nomatch h), fun _ h => (nomatch h), fun _ h => (nomatch h), fun _ h => (nomatch h), fun _ h => (nomatch h), fun _ h => (nomatch h), fun _ h => (nomatch h), fun _ h => (nomatch h)⟩
  | n + 1 => ⟨fun G h => stepE_ok (tr_ok n) G h, fun G h => stepT_ok (tr_ok n) G h, fun G h => stepW_ok (tr_ok n) G h, fun G h => stepV_ok (tr_ok n) G h, fun G h => stepA_ok (tr_ok n) G h, fun G h => stepI_ok (tr_ok n) G h, fun G h => stepO_ok (tr_ok n) G h, fun G h => stepG_ok (tr_ok n) G h, fun G h => stepL_ok (tr_ok n) G h⟩
end
end Fw

set_option maxRecDepth 100000
set_option maxHeartbeats 4000000
namespace Fw
open PySem PySem.Spec PyProof.Rows L2
structure GoodS (C : Ck) (X : Cx) (ex : Nat → Addr) (k : Nat) (Wx : WX) : Prop extends Good C X ex k Wx where
  po : PassesOwn (model X.prog X.w) X.A X.env X.xe
  stk : X.stack = X.env :: X.outer
  frm : X.env.frame = some X.env.locals
def swB (C : Ck) (ts : List Expr) (e : Expr) : Bool := match e with
  | .Tuple _ _ _ => !(ts.length == 2 || ts.length == 3) || (match ts with
    | [.Name x _, .Name y _] => !(decide (kd C x = some .local) && decide (kd C y = some .local))
    | _ => false)
  | _ => true
theorem sw_tup {C : Ck} {ts : List Expr} {e : Expr} {env : Env} {q : Nat} {p : Pos} (hs : env.scope = C.sc) (h : swB C ts e = true) : swappedStores [.Tuple ts q p] e env = pure none := by
  unfold swB at h
  split at h
  · rename_i vs n p2
    rw [Bool.or_eq_true] at h
    unfold swappedStores
    simp only
    rcases h with h | h
    · rw [if_pos (by rw [h]; simp)]
    · split at h
      · rename_i x px y py
        split
        · rfl
        · split
          · rfl
          · rw [if_pos ?_]
            have kx : env.kindOf x = kd C x := by show env.scope.names.lookup x = _; rw [hs]; rfl
            have ky : env.kindOf y = kd C y := by show env.scope.names.lookup y = _; rw [hs]; rfl
            rw [Bool.or_eq_true]
            left
            simp only [List.filterMap_cons, List.filterMap_nil, kx, ky]
            by_cases a : kd C x = some .local
            · by_cases b : kd C y = some .local
              · rw [decide_eq_true a, decide_eq_true b] at h
                cases h
              · have b' : (kd C y == some .local) = false := by simpa using b
                simp only [b', Bool.false_and, Bool.false_eq_true, if_false]
                split <;> simp
            · have a' : (kd C x == some .local) = false := by simpa using a
              simp only [a', Bool.false_and, Bool.false_eq_true, if_false]
              split <;> simp
      · cases h
  · rename_i hne
    cases e <;> first | rfl | exact absurd rfl (hne _ _ _)
theorem swS_tup {e : Expr} {ts : List Expr} {q : Nat} {p : Pos} {n : Nat} {env : Env} : swapsWithSole [.Tuple ts q p] e n env = pure false := by
  cases e <;> rfl
theorem swS_sub {e o i : Expr} {p : Pos} {n : Nat} {env : Env} : swapsWithSole [.Subscript o i p] e n env = pure false := by
  cases e <;> rfl
theorem asg_sub {o i : Expr} {pos : Pos} {env : Env} (h : nSl i = true) : ∀ v, assign (.Subscript o i pos) env v = (do
      let ov ← holding [v] (eval o env)
      let iv ← holding [v, ov] (eval i env)
      standAt pos
      holding [v, ov, iv] (setItem ov iv v)
      release [v, ov, iv] []) := by
  intro v
  cases i <;> first | rfl | cases h
def hnd : Stmt → Option MS
  | .Return (some (.Constant (.str z) _ _)) _ => some (sRet (mC (.str z)))
  | .Return (some (.Constant (.bool z) _ _)) _ => some (sRet (mC (.bool z)))
  | .Return (some (.Constant .none _ _)) _ => some (sRet (mC .none))
  | .Return none _ => some sRetN
  | .Pass _ => some sNil
  | .Continue _ => some sCnt
  | _ => none
theorem hnd_ok {X : Cx} {ex : Nat → Addr} {s : Stmt} {m : MS} {Wx : WX} (h : hnd s = some m) : PS X s (rdS (kxOf X ex) m Wx) := by
  unfold hnd at h
  split at h
  · cases h; exact r_sret (r_con pe_str fun W => .str _)
  · cases h; exact r_sret (r_con pe_bl fun W => .bl _)
  · cases h; exact r_sret (r_con pe_non fun W => .non)
  · cases h; exact r_sretn
  · cases h; exact r_spass
  · cases h; exact r_scnt
  · cases h
def stepS (f : Ck → List Stmt → Option MS) (t : Tr) (C : Ck) : Stmt → Option MS
  | .Return (some e) _ => do let m ← t.E C e; some (sRet m)
  | .Return none _ => some sRetN
  | .Pass _ => some sNil
  | .Break _ => some sBrk
  | .Continue _ => some sCnt
  | .Expr e _ => if nCo e = true then do let m ← t.E C e; some (sExp m) else none
  | .If c a b _ => do let tc ← t.T C c; let ma ← f C a; let mb ← f C b; some (sIf tc ma mb)
  | .While c b [] _ => do let tc ← t.T C c; let mb ← f C b; some (sWhile tc mb C.fuel)
  | .For tg it b [] _ => if nSet it = true then do let mi ← t.I C tg it; let g ← t.G C tg; let mb ← f C b; some (sFor mi g mb) else none
  | .Assign [.Name x _] e _ => if asgB C x = true ∧ nCo e = true then do let i ← ixOf C.N x; let m ← t.E C e; some (sAsg (.nm i) m) else none
  | .Assign [.Tuple ts q p] e _ => if swB C ts e = true then do let g ← t.G C (.Tuple ts q p); let m ← t.E C e; some (sAsg g m) else none
  | .Assign [.Subscript (.Name x p) i _] e _ => if nSl i = true then do let mo ← t.E C (.Name x p); let mi ← t.E C i; let me ← t.E C e; some (if x ∈ C.dct then sPutD mo mi me else sSetI mo mi me) else none
  | .Raise (some (.Call (.Name x _) [] [] _)) none _ => if glB C x = true then do let c ← C.exs.lookup x; some (sRaise c) else none
  | .Try b [.ExceptHandler (some (.Name x _)) none [h] _] [] [] _ => if glB C x = true then do let d ← C.exs.lookup x; let mb ← f C b; let mh ← hnd h; some (sTry mb (fun c => C.isa c d) (sSeq mh sNil)) else none
  | _ => none
def trS : Nat → Nat → Ck → List Stmt → Option MS
  | _, 0, _, _ => none
  | n, f + 1, C, [] => some sNil
  | n, f + 1, C, s :: r => do let a ← stepS (trS n f) (tr n) C s; let b ← trS n f C r; some (sSeq a b)
section
variable {C : Ck} {X : Cx} {ex : Nat → Addr} {k : Nat} {Wx : WX}
theorem stepS_ok {f : Ck → List Stmt → Option MS} {n : Nat} (hf : ∀ {X : Cx} {Wx : WX} {ss : List Stmt} {m : MS}, GoodS C X ex k Wx → f C ss = some m → PSs X ss (rdS (kxOf X ex) m Wx)) (G : GoodS C X ex k Wx) {s : Stmt} {m : MS} (h : stepS f (tr n) C s = some m) : PS X s (rdS (kxOf X ex) m Wx) := by
  have T := tr_ok n
  have G0 := G.toGood
  unfold stepS at h
  split at h
  · obtain ⟨me, h1, h⟩ := bnd2 h
    cases h
    exact r_sret (T.E G0 h1)
  · cases h; exact r_sretn
  · cases h; exact r_spass
  · cases h; exact r_sbrk
  · cases h; exact r_scnt
  · split at h
    · rename_i hn
      obtain ⟨me, h1, h⟩ := bnd2 h
      cases h
      exact r_sexp (T.E G0 h1) (swap_no hn)
    · cases h
  · obtain ⟨tc, h1, h⟩ := bnd2 h
    obtain ⟨ma, h2, h⟩ := bnd2 h
    obtain ⟨mb, h3, h⟩ := bnd2 h
    cases h
    exact r_sif (T.T G0 h1) (hf G h2) (hf G h3)
  · obtain ⟨tc, h1, h⟩ := bnd2 h
    obtain ⟨mb, h2, h⟩ := bnd2 h
    cases h
    exact r_swhile G.po (T.T G0 h1) (hf G h2)
  · split at h
    · rename_i hn
      obtain ⟨mi, h1, h⟩ := bnd2 h
      obtain ⟨g, h2, h⟩ := bnd2 h
      obtain ⟨mb, h3, h⟩ := bnd2 h
      cases h
      exact r_sfor G.po G0.calm (T.I G0 h1) (T.G G0 h2) (hf G h3) (fold_no hn)
    · cases h
  · split at h
    · rename_i hh
      obtain ⟨i, h1, h⟩ := bnd2 h
      obtain ⟨me, h2, h⟩ := bnd2 h
      cases h
      obtain ⟨a1, a2⟩ := asgB_ok G0 hh.1
      exact r_sset (by rw [G0.N]; exact G0.nd) (by rw [G0.N]; exact ixOf_ok h1) a1 (T.E G0 h2) (swap_no hh.2) a2
    · cases h
  · split at h
    · rename_i hh
      obtain ⟨g, h1, h⟩ := bnd2 h
      obtain ⟨me, h2, h⟩ := bnd2 h
      cases h
      exact r_sasg (T.E G0 h2) (T.G G0 h1) swS_tup (sw_tup G0.sc hh) rfl
    · cases h
  · split at h
    rotate_left
    · cases h
    rename_i hi
    obtain ⟨mo, h1, h⟩ := bnd2 h
    obtain ⟨mi, h2, h⟩ := bnd2 h
    obtain ⟨me, h3, h⟩ := bnd2 h
    cases h
    split
    · exact r_sputd G0.room.units G0.nt (T.E G0 h3) (T.E G0 h1) (T.E G0 h2) swap_sub
    · exact r_sseti (T.E G0 h3) (T.E G0 h1) (T.E G0 h2) swS_sub rfl rfl (asg_sub hi)
  · split at h
    · rename_i hg
      obtain ⟨c, h1, h⟩ := bnd2 h
      cases h
      obtain ⟨g1, g2, _⟩ := glB_ok G0 hg
      exact r_sraise G0.calm G0.tk (G0.exs _ _ h1) g1 g2
    · cases h
  · split at h
    · rename_i hg
      obtain ⟨d, h1, h⟩ := bnd2 h
      obtain ⟨mb, h2, h⟩ := bnd2 h
      obtain ⟨mh, h3, h⟩ := bnd2 h
      cases h
      obtain ⟨g1, g2, _⟩ := glB_ok G0 hg
      refine r_stry G.stk G.frm ⟨g1, g2, .inl (G0.exs _ _ h1).g⟩ G0.tk (fun c b e => G0.isa c d b e) (fun W pn xe tk po => hf (X := X.tr pn xe) (Wx := W) ?_ h2) (fun a pn => r_scons (hnd_ok h3) r_snil)
      exact ⟨⟨G0.calm, G0.N, G0.nd, G0.sc, G0.fn, G0.free, G0.glo, fun x q h => by
        obtain ⟨ps, h1, h2⟩ := G0.funs x q h
        exact ⟨ps, h1, ⟨h2.at_⟩⟩, fun x c h => ⟨(G0.exs x c h).g, (G0.exs x c h).k, (G0.exs x c h).e, (G0.exs x c h).r⟩, G0.isa, tk, G0.room, G0.nt⟩, po, G.stk, G.frm⟩
    · cases h
  · cases h
theorem trS_ok {n : Nat} : ∀ (f : Nat) {X : Cx} {Wx : WX} {ss : List Stmt} {m : MS}, GoodS C X ex k Wx → trS n f C ss = some m → PSs X ss (rdS (kxOf X ex) m Wx)
  | 0, _, _, _, _, _, h => by unfold trS at h; cases h
  | f + 1, X, Wx, [], m, G, h => by
    unfold trS at h
    cases h
    exact r_snil
  | f + 1, X, Wx, s :: r, m, G, h => by
    unfold trS at h
    obtain ⟨a, h1, h⟩ := bnd2 h
    obtain ⟨b, h2, h⟩ := bnd2 h
    cases h
    exact r_scons (stepS_ok (n := n) (fun G h => trS_ok f G h) G h1) (trS_ok f G h2)
end

/-! ## defs -/
def FnA (P : Program) (w : World) (K : PySem.W.Frag) (mg : Str → Option Value) (base : Heap) (ex : Nat → Addr) (k : Nat) (x : Str) (ps : List Str) (φ : List D → M D) : Prop :=
  ∃ (f : Addr) (fd : FuncData), mg x = some (.ref f) ∧ PySem.W.keepIn K (.ref f) = true ∧ Binds K fd ps [] ∧ FnOk P w K mg base (L2.CX P w) k f fd ps (spF ⟨K, P, w, ex⟩ ps.length φ)
theorem FnA.mono {P : Program} {w : World} {K : PySem.W.Frag} {mg : Str → Option Value} {base : Heap} {ex : Nat → Addr} {j k : Nat} {x : Str} {ps : List Str} {φ : List D → M D} (h : FnA P w K mg base ex j x ps φ) (le : j ≤ k) : FnA P w K mg base ex k x ps φ := by
  obtain ⟨f, fd, h1, h2, h3, h4⟩ := h
  exact ⟨f, fd, h1, h2, h3, h4.mono le⟩
/-- what the text's defs may lean on -/
structure Ctx (P : Program) (w : World) (K : PySem.W.Frag) (mg : Str → Option Value) (base : Heap) (ex : Nat → Addr) (C : Ck) (k : Nat) : Prop where
  free : ∀ x ∈ C.free, mg x = none
  glo : ∀ x d, C.glo.lookup x = some d → ∃ u v, mg x = some u ∧ RelV v u ∧ ∀ W, Dp K W v d
  funs : ∀ x q, C.funs.lookup x = some q → ∃ ps : List Str, ps.length = q.1 ∧ FnA P w K mg base ex k x ps q.2
  exs : ∀ x c, C.exs.lookup x = some c → mg x = some (.ref (ex c)) ∧ PySem.W.keepIn K (.ref (ex c)) = true ∧ PySem.W.excIn K (ex c) He.veBase "ValueError.__new__" = true ∧ PySem.W.subIn K (.ref (ex c)) (.type "BaseException") = some true ∧ PySem.W.typeIn K (.ref (ex c)) = some (.type "type")
  isa : ∀ c d b, C.isa c d = some b → PySem.W.exmOne K (.ref (ex c)) (.ref (ex d)) = some b
  nt : NoTup K
def env0 (N : List Str) (ds : List D) : Env' := ds.map some ++ List.replicate (N.length - ds.length) none
def fnDen (N : List Str) (m : MS) : List D → M D := fun ds st => match m (env0 N ds) st with
  | .nx _ st' => .ok (.p .none) st'
  | .ret d st' => .ok d st'
  | .exc c _ st' => .exc c st'
  | _ => .bad
theorem rel_start {κ : Kx} {w : Wd} {N : List Str} {ds : List D} {vs : List V} (r : RelL κ.K w ds vs) : RelE κ w (env0 N ds) (L2.start N vs) := by
  have hl := r.length
  refine ⟨by simp [env0, L2.start, hl], fun i d e => ?_⟩
  unfold env0 at e
  by_cases h : i < ds.length
  · rw [List.getElem?_append_left (by rw [List.length_map]; exact h), List.getElem?_map] at e
    cases q : ds[i]? with
    | none => rw [q] at e; cases e
    | some d' =>
      rw [q] at e
      cases e
      obtain ⟨v, h1, h2⟩ := r.get q
      refine ⟨v, ?_, h2⟩
      unfold L2.start
      rw [List.getElem?_append_left (by rw [List.length_map, ← hl]; exact h), List.getElem?_map, h1]
      rfl
  · rw [List.getElem?_append_right (by rw [List.length_map]; omega), List.getElem?_replicate] at e
    split at e <;> cases e
theorem fn_okF {P : Program} {w : World} {K : PySem.W.Frag} {mg : Str → Option Value} {base : Heap} {ex : Nat → Addr} {C : Ck} {k n f : Nat} {x : Str} {params : Arguments} {body : List Stmt} {a : Addr} {fd : FuncData} {ps : List Str} {m : MS}
    (c : Ctx P w K mg base ex C k) (F : FunD K x x params body C.sc [] [] a fd) (S : FnScope C.N ps C.sc) (hb : C.blk = none) (h : trS n f C body = some m) : FnOk P w K mg base (L2.CX P w) (k + 1) a fd ps (spF ⟨K, P, w, ex⟩ ps.length (fnDen C.N m)) := by
  refine F.ok S (fun vs H Q E h => h.1) fun cdv A outer s H vs Q E hr hsp => ⟨_, trS_ok (C := C) (ex := ex) (k := k) f (Wx := fun cls d _ H => E cls d H) ?_ h, ?_⟩
  · exact ⟨⟨rfl, rfl, S.nd, rfl, by unfold Ck.fnB; rw [hb]; rfl, c.free, c.glo, fun x q h => by
      obtain ⟨ps, h1, h2⟩ := c.funs x q h
      exact ⟨ps, h1, ⟨h2⟩⟩, fun x d h => by
      obtain ⟨h1, h2, h3, h4, h5⟩ := c.exs x d h
      exact ⟨h1, h2, h3, raises_own h4 h5⟩, c.isa, takes_of rfl rfl rfl rfl, hr, c.nt⟩, passes_of rfl, rfl, rfl⟩
  · obtain ⟨hl, wd, ds, st, rl, hH, hm⟩ := hsp
    refine ⟨wd, env0 C.N ds, st, rel_start rl, hH, ?_⟩
    unfold fnDen at hm
    cases q : m (env0 C.N ds) st with
    | nx e s => rw [q] at hm; exact fun w' σ' H' le hh _ => hm w' H' .non le hh .non
    | ret d s => rw [q] at hm; exact fun w' v H' le hh r => hm w' H' v le hh r
    | exc c' e s => rw [q] at hm; exact fun w' σ' H' le hh _ => hm w' H' le hh
    | brk e s => rw [q] at hm; exact hm.elim
    | cnt e s => rw [q] at hm; exact hm.elim
    | bad => rw [q] at hm; exact hm.elim
theorem fn_ok {P : Program} {w : World} {K : PySem.W.Frag} {mg : Str → Option Value} {base : Heap} {ex : Nat → Addr} {C : Ck} {k n f : Nat} {x : Str} {params : Arguments} {body : List Stmt} {a : Addr} {fd : FuncData} {ps : List Str} {m : MS}
    (c : Ctx P w K mg base ex C k) (F : FunD K x x params body C.sc [] [] a fd) (S : FnScope C.N ps C.sc) (hb : C.blk = none) (h : trS n f C body = some m) (hg : mg x = some (.ref a)) (hbd : Binds K fd ps []) : FnA P w K mg base ex (k + 1) x ps (fnDen C.N m) :=
  ⟨a, fd, hg, F.kp, hbd, fn_okF c F S hb h⟩
end Fw

set_option maxRecDepth 100000
set_option maxHeartbeats 0
namespace Q30
open PySem PySem.Spec PyProof.Rows L2 Fw
def top (i : Nat) : Stmt := PySem.Challenge.pw_sumsandrests_k30_whole_lots_of_monomials.main.body.getD i (.Pass ⟨0, 0, 0, 0⟩)
def mkD (x : Str) (i : Nat) : He.DefD := ⟨(x, none), x, x, defArgs (top i), defBody (top i), defScope (top i), [], []⟩
def fn : List He.DefD := [mkD "is_integer" 4, mkD "is_monomial" 6, mkD "times" 7, mkD "divides" 8, mkD "lcm" 9, mkD "unit" 10, mkD "check_monomials" 13, mkD "least" 14, mkD "holds" 15, mkD "shared" 16, mkD "multiplied" 17, mkD "over" 18, mkD "over_all" 19, mkD "radical" 20, mkD "is_square_free" 21, mkD "_law_tape" 23, mkD "_law_draw" 24, mkD "_law_pick" 25, mkD "_law_same" 26, mkD "_law_box" 27, mkD "_law_monomials" 28, mkD "_law_divides" 29, mkD "_law_held" 30, mkD "_law_least" 31, mkD "_law_degree" 32, mkD "_law_plus" 33, mkD "_law_told" 34, mkD "law" 35]
def fa : List He.Fa := [.glo "is_integer", .glo "is_monomial", .glo "times", .glo "divides", .glo "lcm", .glo "unit", .glo "check_monomials", .glo "least", .glo "holds", .glo "shared", .glo "multiplied", .glo "over", .glo "over_all", .glo "radical", .glo "is_square_free", .glo "_law_tape", .glo "_law_draw", .glo "_law_pick", .glo "_law_same", .glo "_law_box", .glo "_law_monomials", .glo "_law_divides", .glo "_law_held", .glo "_law_least", .glo "_law_degree", .glo "_law_plus", .glo "_law_told", .glo "law", .glo "BadList", .exc "BadList", .exm "BadList" "BadList" true, .free "ValueError", .free "abs", .free "all", .free "any", .free "bool", .free "dict", .free "int", .free "isinstance", .free "len", .free "list", .free "max", .free "min", .free "range", .free "set", .free "sorted", .free "str", .free "sum", .free "tuple", .free "zip", .int "MOST_MONOMIALS" 40]

abbrev Rr : PySem.W.OpenRow := PySem.W.OpenLaw.row PySem.Challenge.rw_sumsandrests_k30_whole_lots_of_monomials
def isI : Value → Bool
  | .int _ _ => true
  | _ => false
def noT (K : PySem.W.Frag) : Bool := K.all fun q => match q.2.data with
  | .seq its _ => its.toList.isEmpty || !(its.toList.all isI)
  | _ => true
abbrev hk : PySem.W.Hook := He.hookX 4 fa fn [] [] noT
def ob (s : PySem.W.SharedT) : He.AlX := He.obsX 4 fa fn [] [] noT (HandSHeadRun.getT s)
theorem ob_eq (s : PySem.W.SharedT) : ob s = hk.obs s.abs := He.obsX_eq (HandSHeadRun.getT_eq s)
abbrev loose : List Str := ["is_integer", "is_monomial", "times", "divides", "lcm", "unit", "check_monomials", "least", "holds", "shared", "multiplied", "over", "over_all", "radical", "is_square_free", "_law_tape", "_law_draw", "_law_pick", "_law_same", "_law_box", "_law_monomials", "_law_divides", "_law_held", "_law_least", "_law_degree", "_law_plus", "_law_told", "SumError", "BadList", "MOST_MONOMIALS"]
theorem run (w : World) : HandSHeadRun.RunEq Rr (PySem.W.view Rr.prog [35]) hk ob 6000 loose w := by
  intro os
  kernel_rfl
theorem ints_isI : ∀ {k : List Int} {us : List Value}, Vals (k.map V.int) us → us.all isI = true
  | [], _, .nil => rfl
  | i :: k, _, .cons r t => by
    obtain ⟨tk, rfl⟩ := r
    rw [List.all_cons]
    exact ints_isI t
theorem nt_of {K : PySem.W.Frag} (h : noT K = true) : NoTup K := fun a o its n k e hc hd hv => by
  have q := List.all_eq_true.mp h (a, o) (PySem.W.mem_of_lookupK e)
  have q' : (match o.data with
    | .seq its _ => its.toList.isEmpty || !(its.toList.all isI)
    | _ => true) = true := q
  rw [hd] at q'
  simp only [Bool.or_eq_true, ints_isI hv, Bool.not_true] at q'
  rcases q' with q' | q'
  · cases k with
    | nil => rfl
    | cons i r =>
      have := hv.length
      rw [List.isEmpty_iff.mp q'] at this
      simp at this
  · cases q'
end Q30

set_option maxRecDepth 100000
set_option maxHeartbeats 4000000
namespace Q30
open PySem PySem.Spec Fw
def isa0 : Nat → Nat → Option Bool := fun c d => if c = 0 ∧ d = 0 then some true else none
def N_is_integer : List Str := ["value"]
def m_is_integer : MS :=
    sSeq (sRet (mAnd (m1 (mVar 0) (lift1 3 (isiP .int))) (mNot (m1 (mVar 0) (lift1 3 (isiP .bool))))))
    (sNil)
def φ_is_integer : List D → M D := fnDen N_is_integer m_is_integer
def N_is_monomial : List Str := ["value", "count", "item"]
def m_is_monomial : MS :=
    sSeq (sIf (tOrr (tNt (tV (m1 (mVar 0) (lift1 3 (isiP .tup))))) (tB (m2 (mL (aCons (mVar 0) (aNil)) (gL1 lenG)) (mVar 1) (lift2 3 neP)))) (sSeq (sRet (mC (.bool false)))
    (sNil)) (sNil))
    (sSeq (sRet (mL (aCons (mCompV false 0 (.nm 2) [2] (tTr) (mAnd (mCall (aCons (mVar 2) (aNil)) (sized 1 φ_is_integer)) (m2 (mVar 2) (mC (.int 0)) (lift2 3 geP)))) (aNil)) (gL1 (lift1 1 allP))))
    (sNil))
def φ_is_monomial : List D → M D := fnDen N_is_monomial m_is_monomial
def N_times : List Str := ["one", "other", "left", "right"]
def m_times : MS :=
    sSeq (sRet (mL (aCons (mComp false (iArgs (aCons (mVar 0) (aCons (mVar 1) (aNil))) zip2) (.tp (.cons (.nm 2) (.cons (.nm 3) .nil))) [2, 3] (tTr) (m2 (mVar 2) (mVar 3) (lift2 1 addP))) (aNil)) (gL1 (lift1 1 tupP))))
    (sNil)
def φ_times : List D → M D := fnDen N_times m_times
def N_divides : List Str := ["one", "other", "left", "right"]
def m_divides : MS :=
    sSeq (sRet (mL (aCons (mComp false (iArgs (aCons (mVar 0) (aCons (mVar 1) (aNil))) zip2) (.tp (.cons (.nm 2) (.cons (.nm 3) .nil))) [2, 3] (tTr) (m2 (mVar 2) (mVar 3) (lift2 3 leP))) (aNil)) (gL1 (lift1 1 allP))))
    (sNil)
def φ_divides : List D → M D := fnDen N_divides m_divides
def N_lcm : List Str := ["one", "other", "left", "right"]
def m_lcm : MS :=
    sSeq (sRet (mL (aCons (mComp false (iArgs (aCons (mVar 0) (aCons (mVar 1) (aNil))) zip2) (.tp (.cons (.nm 2) (.cons (.nm 3) .nil))) [2, 3] (tTr) (mL (aCons (mVar 2) (aCons (mVar 3) (aNil))) (gL2 (lift2 1 max2P)))) (aNil)) (gL1 (lift1 1 tupP))))
    (sNil)
def φ_lcm : List D → M D := fnDen N_lcm m_lcm
def N_unit : List Str := ["count"]
def m_unit : MS :=
    sSeq (sRet (m2 (mL (aCons (mC (.int 0)) (aNil)) gTupD) (mVar 0) (lift2 1 mulP)))
    (sNil)
def φ_unit : List D → M D := fnDen N_unit m_unit
def N_check_monomials : List Str := ["value", "count", "one"]
def m_check_monomials : MS :=
    sSeq (sIf (tOrr (tNt (tV (m1 (mVar 0) (lift1 3 (isiP .tup))))) (tB (m2 (mL (aCons (mVar 0) (aNil)) (gL1 lenG)) (mC (.int 40)) (lift2 3 gtP)))) (sSeq (sRaise 0)
    (sNil)) (sNil))
    (sSeq (sIf (tNt (tV (mL (aCons (mCompV false 0 (.nm 2) [2] (tTr) (mCall (aCons (mVar 2) (aCons (mVar 1) (aNil))) (sized 2 φ_is_monomial))) (aNil)) (gL1 (lift1 1 allP))))) (sSeq (sRaise 0)
    (sNil)) (sNil))
    (sNil))
def φ_check_monomials : List D → M D := fnDen N_check_monomials m_check_monomials
def N_least : List Str := ["monomials", "rows", "one", "other"]
def m_least : MS :=
    sSeq (sAsg (.nm 1) (mL (aCons (mL (aCons (mVar 0) (aNil)) (gL1 setF)) (aNil)) (gL1 sortF)))
    (sSeq (sRet (mL (aCons (mCompV false 1 (.nm 2) [2] (tNt (tV (mL (aCons (mCompV false 1 (.nm 3) [3] (tTr) (mAnd (m2 (mVar 3) (mVar 2) (lift2 3 neP)) (mCall (aCons (mVar 3) (aCons (mVar 2) (aNil))) (sized 2 φ_divides)))) (aNil)) (gL1 (lift1 1 anyP))))) (mVar 2)) (aNil)) (gL1 (lift1 1 tupP))))
    (sNil))
def φ_least : List D → M D := fnDen N_least m_least
def N_holds : List Str := ["monomials", "one", "other"]
def m_holds : MS :=
    sSeq (sRet (mL (aCons (mCompV false 0 (.nm 2) [2] (tTr) (mCall (aCons (mVar 2) (aCons (mVar 1) (aNil))) (sized 2 φ_divides))) (aNil)) (gL1 (lift1 1 anyP))))
    (sNil)
def φ_holds : List D → M D := fnDen N_holds m_holds
def N_shared : List Str := ["one", "other", "left", "right"]
def m_shared : MS :=
    sSeq (sRet (mCall (aCons (mComp2 false (iSeq (mVar 0)) (.nm 2) [2, 3] (tTr) (iSeq (mVar 1)) (.nm 3) [3] (tTr) (mCall (aCons (mVar 2) (aCons (mVar 3) (aNil))) (sized 2 φ_lcm))) (aNil)) (sized 1 φ_least)))
    (sNil)
def φ_shared : List D → M D := fnDen N_shared m_shared
def N_multiplied : List Str := ["one", "other", "left", "right"]
def m_multiplied : MS :=
    sSeq (sRet (mCall (aCons (mComp2 false (iSeq (mVar 0)) (.nm 2) [2, 3] (tTr) (iSeq (mVar 1)) (.nm 3) [3] (tTr) (mCall (aCons (mVar 2) (aCons (mVar 3) (aNil))) (sized 2 φ_times))) (aNil)) (sized 1 φ_least)))
    (sNil)
def φ_multiplied : List D → M D := fnDen N_multiplied m_multiplied
def N_over : List Str := ["monomials", "one", "mate", "left", "right"]
def m_over : MS :=
    sSeq (sRet (mCall (aCons (mCompV false 0 (.nm 2) [2] (tTr) (mL (aCons (mComp false (iArgs (aCons (mVar 2) (aCons (mVar 1) (aNil))) zip2) (.tp (.cons (.nm 3) (.cons (.nm 4) .nil))) [3, 4] (tTr) (mL (aCons (m2 (mVar 3) (mVar 4) (lift2 1 subP)) (aCons (mC (.int 0)) (aNil))) (gL2 (lift2 1 max2P)))) (aNil)) (gL1 (lift1 1 tupP)))) (aNil)) (sized 1 φ_least)))
    (sNil)
def φ_over : List D → M D := fnDen N_over m_over
def N_over_all : List Str := ["monomials", "others", "count", "found", "one"]
def m_over_all : MS :=
    sSeq (sAsg (.nm 3) (mL (aCons (mCall (aCons (mVar 2) (aNil)) (sized 1 φ_unit)) (aNil)) gTupD))
    (sSeq (sFor (iSeq (mVar 1)) (.nm 4) (sSeq (sAsg (.nm 3) (mCall (aCons (mVar 3) (aCons (mCall (aCons (mVar 0) (aCons (mVar 4) (aNil))) (sized 2 φ_over)) (aNil))) (sized 2 φ_shared)))
    (sNil)))
    (sSeq (sRet (mVar 3))
    (sNil)))
def φ_over_all : List D → M D := fnDen N_over_all m_over_all
def N_radical : List Str := ["monomials", "one", "item"]
def m_radical : MS :=
    sSeq (sRet (mCall (aCons (mCompV false 0 (.nm 1) [1] (tTr) (mL (aCons (mCompV false 1 (.nm 2) [2] (tTr) (mL (aCons (mVar 2) (aCons (mC (.int 1)) (aNil))) (gL2 (lift2 1 min2P)))) (aNil)) (gL1 (lift1 1 tupP)))) (aNil)) (sized 1 φ_least)))
    (sNil)
def φ_radical : List D → M D := fnDen N_radical m_radical
def N_is_square_free : List Str := ["monomials", "one"]
def m_is_square_free : MS :=
    sSeq (sRet (mL (aCons (mComp false (iSeq (mCall (aCons (mVar 0) (aNil)) (sized 1 φ_least))) (.nm 1) [1] (tTr) (m2 (mL (aCons (m2 (mVar 1) (mL (aCons (mC (.int 0)) (aNil)) gTupD) (lift2 1 addP)) (aNil)) (gL1 (lift1 1 (best1 true)))) (mC (.int 2)) (lift2 3 ltP))) (aNil)) (gL1 (lift1 1 allP))))
    (sNil)
def φ_is_square_free : List D → M D := fnDen N_is_square_free m_is_square_free
def N__law_tape : List Str := ["script", "seed", "cell"]
def m__law_tape : MS :=
    sSeq (sAsg (.nm 1) (mC (.int 7)))
    (sSeq (sFor (iSeq (mVar 0)) (.nm 2) (sSeq (sAsg (.nm 1) (m2 (mL (aCons (m2 (m2 (mVar 1) (mC (.int 31)) (lift2 1 mulP)) (mVar 2) (lift2 1 addP)) (aNil)) (gL1 (lift1 1 intP))) (mC (.int 1000003)) (lift2 1 modP)))
    (sNil)))
    (sSeq (sRet (mL (aCons (mCompV true 0 (.nm 2) [2] (tTr) (mL (aCons (mL (aCons (mVar 2) (aNil)) (gL1 (lift1 1 intP))) (aNil)) (gL1 (lift1 1 absP)))) (aCons (m2 (mVar 1) (mC (.int 1)) (lift2 1 addP)) (aNil))) gMutD))
    (sNil)))
def φ__law_tape : List D → M D := fnDen N__law_tape m__law_tape
def N__law_draw : List Str := ["tape", "many", "cells", "number"]
def m__law_draw : MS :=
    sSeq (sAsg (.nm 2) (m2 (mVar 0) (mC (.int 0)) ixG))
    (sSeq (sWhile (tAn (tB (m2 (mL (aCons (mVar 2) (aNil)) (gL1 lenG)) (mC (.int 0)) (lift2 3 gtP))) (tB (m2 (m2 (mVar 2) (mC (.int 0)) ixG) (mC (.int 0)) (lift2 3 eqP)))) (sSeq (sExp (mMth (mVar 2) (aCons (mC (.int 0)) (aNil)) popAtG))
    (sNil)) 100)
    (sSeq (sIf (tB (m2 (mL (aCons (mVar 2) (aNil)) (gL1 lenG)) (mC (.int 0)) (lift2 3 gtP))) (sSeq (sAsg (.nm 3) (m2 (mVar 2) (mC (.int 0)) ixG))
    (sSeq (sSetI (mVar 2) (mC (.int 0)) (m2 (mVar 3) (mVar 1) (lift2 1 fdivP)))
    (sSeq (sRet (m2 (mL (aCons (mVar 3) (aNil)) (gL1 (lift1 1 intP))) (mVar 1) (lift2 1 modP)))
    (sNil)))) (sNil))
    (sSeq (sSetI (mVar 0) (mC (.int 1)) (m2 (mL (aCons (m2 (m2 (m2 (mVar 0) (mC (.int 1)) ixG) (mC (.int 48271)) (lift2 1 mulP)) (mC (.int 12345)) (lift2 1 addP)) (aNil)) (gL1 (lift1 1 intP))) (mC (.int 2147483647)) (lift2 1 modP)))
    (sSeq (sRet (m2 (mL (aCons (m2 (m2 (mVar 0) (mC (.int 1)) ixG) (mC (.int 64)) (lift2 1 fdivP)) (aNil)) (gL1 (lift1 1 intP))) (mVar 1) (lift2 1 modP)))
    (sNil)))))
def φ__law_draw : List D → M D := fnDen N__law_draw m__law_draw
def N__law_pick : List Str := ["tape", "row"]
def m__law_pick : MS :=
    sSeq (sRet (m2 (mVar 1) (mCall (aCons (mVar 0) (aCons (mL (aCons (mVar 1) (aNil)) (gL1 lenG)) (aNil))) (sized 2 φ__law_draw)) ixG))
    (sNil)
def φ__law_pick : List D → M D := fnDen N__law_pick m__law_pick
def N__law_same : List Str := ["one", "other", "k"]
def m__law_same (self : List D → M D) : MS :=
    sSeq (sIf (tOrr (tV (m1 (mVar 0) (lift1 3 (isiP .tup)))) (tV (m1 (mVar 1) (lift1 3 (isiP .tup))))) (sSeq (sIf (tOrr (tNt (tV (m1 (mVar 0) (lift1 3 (isiP .tup))))) (tOrr (tNt (tV (m1 (mVar 1) (lift1 3 (isiP .tup))))) (tB (m2 (mL (aCons (mVar 0) (aNil)) (gL1 lenG)) (mL (aCons (mVar 1) (aNil)) (gL1 lenG)) (lift2 3 neP))))) (sSeq (sRet (mC (.bool false)))
    (sNil)) (sNil))
    (sSeq (sRet (mL (aCons (mComp false (iArgs (aCons (mL (aCons (mVar 0) (aNil)) (gL1 lenG)) (aNil)) rng1) (.nm 2) [2] (tTr) (mCall (aCons (m2 (mVar 0) (mVar 2) ixG) (aCons (m2 (mVar 1) (mVar 2) ixG) (aNil))) (sized 2 self))) (aNil)) (gL1 (lift1 1 allP))))
    (sNil))) (sNil))
    (sSeq (sIf (tOrr (tB (m2 (m1 (mVar 0) (lift1 3 (isiP .str))) (m1 (mVar 1) (lift1 3 (isiP .str))) (lift2 3 neP))) (tB (m2 (m1 (mVar 0) (lift1 3 (isiP .int))) (m1 (mVar 1) (lift1 3 (isiP .int))) (lift2 3 neP)))) (sSeq (sRet (mC (.bool false)))
    (sNil)) (sNil))
    (sSeq (sRet (m2 (mVar 0) (mVar 1) (lift2 3 eqP)))
    (sNil)))
def φ__law_same : Nat → List D → M D
  | 0 => fun _ => bad
  | n + 1 => fnDen N__law_same (m__law_same (φ__law_same n))
def N__law_box : List Str := ["count", "most", "found", "turn", "longer", "row", "k"]
def m__law_box : MS :=
    sSeq (sAsg (.nm 2) (mL (aCons (mL (aNil) gTupD) (aNil)) gLstD))
    (sSeq (sFor (iArgs (aCons (mVar 0) (aNil)) rng1) (.nm 3) (sSeq (sAsg (.nm 4) (mL (aNil) gLstD))
    (sSeq (sFor (iSeq (mVar 2)) (.nm 5) (sSeq (sAsg (.nm 4) (m2 (mVar 4) (mComp false (iArgs (aCons (m2 (mVar 1) (mC (.int 1)) (lift2 1 addP)) (aNil)) rng1) (.nm 6) [6] (tTr) (m2 (mVar 5) (mL (aCons (mVar 6) (aNil)) gTupD) (lift2 1 addP))) (lift2 1 addP)))
    (sNil)))
    (sSeq (sAsg (.nm 2) (mVar 4))
    (sNil)))))
    (sSeq (sRet (mVar 2))
    (sNil)))
def φ__law_box : List D → M D := fnDen N__law_box m__law_box
def N__law_monomials : List Str := ["tape", "count", "most", "number", "j", "k"]
def m__law_monomials : MS :=
    sSeq (sRet (mL (aCons (mComp false (iArgs (aCons (mVar 3) (aNil)) rng1) (.nm 4) [4] (tTr) (mL (aCons (mComp false (iArgs (aCons (mVar 1) (aNil)) rng1) (.nm 5) [5] (tTr) (mCall (aCons (mVar 0) (aCons (m2 (mVar 2) (mC (.int 1)) (lift2 1 addP)) (aNil))) (sized 2 φ__law_draw))) (aNil)) (gL1 (lift1 1 tupP)))) (aNil)) (gL1 (lift1 1 tupP))))
    (sNil)
def φ__law_monomials : List D → M D := fnDen N__law_monomials m__law_monomials
def N__law_divides : List Str := ["one", "other", "a", "b"]
def m__law_divides : MS :=
    sSeq (sRet (mL (aCons (mComp false (iArgs (aCons (mVar 0) (aCons (mVar 1) (aNil))) zip2) (.tp (.cons (.nm 2) (.cons (.nm 3) .nil))) [2, 3] (tTr) (m2 (mVar 2) (mVar 3) (lift2 3 leP))) (aNil)) (gL1 (lift1 1 allP))))
    (sNil)
def φ__law_divides : List D → M D := fnDen N__law_divides m__law_divides
def N__law_held : List Str := ["rows", "one", "row"]
def m__law_held : MS :=
    sSeq (sRet (mL (aCons (mCompV false 0 (.nm 2) [2] (tTr) (mCall (aCons (mVar 2) (aCons (mVar 1) (aNil))) (sized 2 φ__law_divides))) (aNil)) (gL1 (lift1 1 anyP))))
    (sNil)
def φ__law_held : List D → M D := fnDen N__law_held m__law_held
def N__law_least : List Str := ["rows", "every", "one", "row", "other"]
def m__law_least : MS :=
    sSeq (sAsg (.nm 1) (mL (aCons (mL (aCons (mCompV false 0 (.nm 3) [3] (tTr) (mL (aCons (mVar 3) (aCons (mC (.bool true)) (aNil))) gTupD)) (aNil)) (gL1 dictF)) (aNil)) (gL1 sortF)))
    (sSeq (sRet (mL (aCons (mCompV false 1 (.nm 2) [2] (tNt (tV (mL (aCons (mCompV false 1 (.nm 4) [4] (tTr) (mAnd (m2 (mVar 4) (mVar 2) (lift2 3 neP)) (mCall (aCons (mVar 4) (aCons (mVar 2) (aNil))) (sized 2 φ__law_divides)))) (aNil)) (gL1 (lift1 1 anyP))))) (mVar 2)) (aNil)) (gL1 (lift1 1 tupP))))
    (sNil))
def φ__law_least : List D → M D := fnDen N__law_least m__law_least
def N__law_degree : List Str := ["count", "size", "row"]
def m__law_degree : MS :=
    sSeq (sRet (mComp false (iSeq (mCall (aCons (mVar 0) (aCons (mVar 1) (aNil))) (sized 2 φ__law_box))) (.nm 2) [2] (tB (m2 (mL (aCons (mVar 2) (aNil)) (gL1 (lift1 1 sumP))) (mVar 1) (lift2 3 eqP))) (mVar 2)))
    (sNil)
def φ__law_degree : List D → M D := fnDen N__law_degree m__law_degree
def N__law_plus : List Str := ["one", "other", "a", "b"]
def m__law_plus : MS :=
    sSeq (sRet (mL (aCons (mComp false (iArgs (aCons (mVar 0) (aCons (mVar 1) (aNil))) zip2) (.tp (.cons (.nm 2) (.cons (.nm 3) .nil))) [2, 3] (tTr) (m2 (mVar 2) (mVar 3) (lift2 1 addP))) (aNil)) (gL1 (lift1 1 tupP))))
    (sNil)
def φ__law_plus : List D → M D := fnDen N__law_plus m__law_plus
def N__law_told : List Str := ["value", "count"]
def m__law_told : MS :=
    sSeq (sTry (sSeq (sRet (mCall (aCons (mVar 0) (aCons (mVar 1) (aNil))) (sized 2 φ_check_monomials)))
    (sNil)) (fun c => isa0 c 0) (sSeq (sRet (mC (.str ("refused" : Str)))) sNil))
    (sNil)
def φ__law_told : List D → M D := fnDen N__law_told m__law_told
def q0 : MS := sAsg (.nm 3) (m2 (mC (.int 1)) (mCall (aCons (mVar 1) (aCons (mC (.int 3)) (aNil))) (sized 2 φ__law_draw)) (lift2 1 addP))
def q1 : MS := sAsg (.tp (.cons (.nm 12) (.cons (.nm 13) .nil))) (mL (aCons (mCall (aCons (mVar 1) (aCons (mVar 3) (aCons (mC (.int 3)) (aCons (mCall (aCons (mVar 1) (aCons (mC (.int 5)) (aNil))) (sized 2 φ__law_draw)) (aNil))))) (sized 4 φ__law_monomials)) (aCons (mCall (aCons (mVar 1) (aCons (mVar 3) (aCons (mC (.int 3)) (aCons (mCall (aCons (mVar 1) (aCons (mC (.int 4)) (aNil))) (sized 2 φ__law_draw)) (aNil))))) (sized 4 φ__law_monomials)) (aNil))) gTupD)
def q2 : MS := sAsg (.nm 4) (mL (aCons (mComp false (iArgs (aCons (mVar 3) (aNil)) rng1) (.nm 19) [19] (tTr) (mCall (aCons (mVar 1) (aCons (mC (.int 4)) (aNil))) (sized 2 φ__law_draw))) (aNil)) (gL1 (lift1 1 tupP)))
def q3 : MS := sAsg (.nm 5) (mCall (aCons (mVar 3) (aCons (mIf (tB (m2 (mVar 3) (mC (.int 3)) (lift2 3 ltP))) (mC (.int 6)) (mC (.int 4))) (aNil))) (sized 2 φ__law_box))
def q4 : MS := sIf (tOrr (tNt (tV (mCall (aCons (mCall (aCons (mVar 12) (aNil)) (sized 1 φ_least)) (aCons (mCall (aCons (mVar 12) (aNil)) (sized 1 φ__law_least)) (aNil))) (sized 2 (φ__law_same 9))))) (tNt (tV (mL (aCons (mCompV false 5 (.nm 8) [8] (tTr) (m2 (mCall (aCons (mVar 12) (aCons (mVar 8) (aNil))) (sized 2 φ_holds)) (mCall (aCons (mVar 12) (aCons (mVar 8) (aNil))) (sized 2 φ__law_held)) (lift2 3 eqP))) (aNil)) (gL1 (lift1 1 allP)))))) (sSeq (sRet (mC (.bool false)))
    (sNil)) (sNil)
def q5 : MS := sAsg (.tp (.cons (.nm 14) (.cons (.nm 15) (.cons (.nm 16) (.cons (.nm 17) .nil))))) (mL (aCons (mCall (aCons (mVar 12) (aCons (mVar 13) (aNil))) (sized 2 φ_shared)) (aCons (mCall (aCons (mVar 12) (aCons (mVar 13) (aNil))) (sized 2 φ_multiplied)) (aCons (mCall (aCons (mVar 12) (aCons (mVar 4) (aNil))) (sized 2 φ_over)) (aCons (mCall (aCons (mVar 12) (aNil)) (sized 1 φ_radical)) (aNil))))) gTupD)
def q6 : MS := sFor (iSeq (mL (aCons (mVar 14) (aCons (mVar 15) (aCons (mVar 16) (aCons (mVar 17) (aNil))))) gLstD)) (.nm 6) (sSeq (sIf (tOrr (tNt (tV (m1 (mVar 6) (lift1 3 (isiP .tup))))) (tB (m2 (mVar 6) (mCall (aCons (mVar 6) (aNil)) (sized 1 φ__law_least)) (lift2 3 neP)))) (sSeq (sRet (mC (.bool false)))
    (sNil)) (sNil))
    (sNil))
def q7 : MS := sAsg (.nm 7) (mCall (aCons (mVar 12) (aCons (mVar 13) (aCons (mVar 3) (aNil)))) (sized 3 φ_over_all))
def q8 : MS := sFor (iSeq (mVar 5)) (.nm 8) (sSeq (sIf (tB (m2 (mCall (aCons (mVar 14) (aCons (mVar 8) (aNil))) (sized 2 φ__law_held)) (mAnd (mCall (aCons (mVar 12) (aCons (mVar 8) (aNil))) (sized 2 φ__law_held)) (mCall (aCons (mVar 13) (aCons (mVar 8) (aNil))) (sized 2 φ__law_held))) (lift2 3 neP))) (sSeq (sRet (mC (.bool false)))
    (sNil)) (sNil))
    (sSeq (sIf (tB (m2 (mCall (aCons (mVar 16) (aCons (mVar 8) (aNil))) (sized 2 φ__law_held)) (mCall (aCons (mVar 12) (aCons (mCall (aCons (mVar 8) (aCons (mVar 4) (aNil))) (sized 2 φ__law_plus)) (aNil))) (sized 2 φ__law_held)) (lift2 3 neP))) (sSeq (sRet (mC (.bool false)))
    (sNil)) (sNil))
    (sSeq (sIf (tB (m2 (mCall (aCons (mVar 7) (aCons (mVar 8) (aNil))) (sized 2 φ__law_held)) (mL (aCons (mCompV false 13 (.nm 20) [20] (tTr) (mCall (aCons (mVar 12) (aCons (mCall (aCons (mVar 8) (aCons (mVar 20) (aNil))) (sized 2 φ__law_plus)) (aNil))) (sized 2 φ__law_held))) (aNil)) (gL1 (lift1 1 allP))) (lift2 3 neP))) (sSeq (sRet (mC (.bool false)))
    (sNil)) (sNil))
    (sSeq (sIf (tB (m2 (mCall (aCons (mVar 17) (aCons (mVar 8) (aNil))) (sized 2 φ__law_held)) (mCall (aCons (mVar 12) (aCons (mL (aCons (mCompV false 8 (.nm 21) [21] (tTr) (m2 (mC (.int 9)) (mVar 21) (lift2 1 mulP))) (aNil)) (gL1 (lift1 1 tupP))) (aNil))) (sized 2 φ__law_held)) (lift2 3 neP))) (sSeq (sRet (mC (.bool false)))
    (sNil)) (sNil))
    (sNil)))))
def q9 : MS := sAsg (.nm 9) (mNewD)
def q10 : MS := sFor (iSeq (mVar 12)) (.nm 10) (sSeq (sFor (iSeq (mVar 13)) (.nm 18) (sSeq (sPutD (mVar 9) (mCall (aCons (mVar 10) (aCons (mVar 18) (aNil))) (sized 2 φ__law_plus)) (mC (.bool true)))
    (sNil)))
    (sNil))
def q11 : MS := sIf (tOrr (tB (m2 (mVar 15) (mCall (aCons (mVar 9) (aNil)) (sized 1 φ__law_least)) (lift2 3 neP))) (tB (m2 (mCall (aCons (mVar 12) (aNil)) (sized 1 φ_is_square_free)) (mL (aCons (mComp false (iSeq (mCall (aCons (mVar 12) (aNil)) (sized 1 φ__law_least))) (.nm 8) [8] (tTr) (m2 (mL (aCons (mVar 8) (aNil)) (gL1 (lift1 1 (best1 true)))) (mC (.int 2)) (lift2 3 ltP))) (aNil)) (gL1 (lift1 1 allP))) (lift2 3 neP)))) (sSeq (sRet (mC (.bool false)))
    (sNil)) (sNil)
def q12 : MS := sAsg (.nm 11) (mCall (aCons (mVar 1) (aCons (mL (aCons (mC .none) (aCons (mL (aCons (mVar 12) (aNil)) (gL1 (lift1 1 lstP))) (aCons (m2 (mVar 12) (mL (aCons (m2 (mL (aCons (mC (.int 0)) (aNil)) gTupD) (m2 (mVar 3) (mC (.int 1)) (lift2 1 addP)) (lift2 1 mulP)) (aNil)) gTupD) (lift2 1 addP)) (aCons (m2 (mVar 12) (mL (aCons (m2 (mL (aCons (m1 (mC (.int 1)) (lift1 1 negP)) (aNil)) gTupD) (mVar 3) (lift2 1 mulP)) (aNil)) gTupD) (lift2 1 addP)) (aCons (m2 (mVar 12) (mL (aCons (mC .none) (aNil)) gTupD) (lift2 1 addP)) (aCons (m2 (mVar 12) (mL (aCons (m2 (mL (aCons (mC (.bool true)) (aNil)) gTupD) (mVar 3) (lift2 1 mulP)) (aNil)) gTupD) (lift2 1 addP)) (aCons (m2 (mL (aCons (m2 (mL (aCons (mC (.int 0)) (aNil)) gTupD) (mVar 3) (lift2 1 mulP)) (aNil)) gTupD) (mC (.int 41)) (lift2 1 mulP)) (aNil)))))))) gLstD) (aNil))) (sized 2 φ__law_pick))
def q13 : MS := sIf (tOrr (tB (m2 (mCall (aCons (mVar 11) (aCons (mVar 3) (aNil))) (sized 2 φ__law_told)) (mC (.str ("refused" : Str))) (lift2 3 neP))) (tB (m2 (mCall (aCons (mVar 12) (aCons (mVar 3) (aNil))) (sized 2 φ__law_told)) (mC .none) (lift2 1 (isP true))))) (sSeq (sRet (mC (.bool false)))
    (sNil)) (sNil)
def qb : MS := sSeq q0 (sSeq q1 (sSeq q2 (sSeq q3 (sSeq q4 (sSeq q5 (sSeq q6 (sSeq q7 (sSeq q8 (sSeq q9 (sSeq q10 (sSeq q11 (sSeq q12 (sSeq q13 (sNil))))))))))))))
def N_law : List Str := ["script", "tape", "turn", "count", "step", "box", "found", "rest", "row", "sums", "a", "bad", "one", "other", "both", "product", "part", "root", "b", "k", "mate", "item"]
def m_law : MS :=
    sSeq (sAsg (.nm 1) (mCall (aCons (mVar 0) (aNil)) (sized 1 φ__law_tape)))
    (sSeq (sFor (iArgs (aCons (mC (.int 2)) (aNil)) rng1) (.nm 2) qb)
    (sSeq (sRet (mC (.bool true)))
    (sNil)))
def φ_law : List D → M D := fnDen N_law m_law

end Q30

set_option maxRecDepth 100000
set_option maxHeartbeats 4000000
namespace Q30
open PySem PySem.Spec PyProof.Rows L2 Fw
def frees : List Str := ["ValueError", "abs", "all", "any", "bool", "dict", "int", "isinstance", "len", "list", "max", "min", "range", "set", "sorted", "str", "sum", "tuple", "zip"]
def glos : List (Str × PyData) := [("MOST_MONOMIALS", .int 40)]
def exsL : List (Str × Nat) := [("BadList", 0)]
def ck (N : List Str) (sc : Scope) (fs : List (Str × Nat × (List D → M D))) (mu : List Nat) : Ck := ⟨N, sc, none, frees, glos, fs, exsL, isa0, mu, ["sums"], 100⟩
def C_is_integer : Ck := ck N_is_integer (defScope (top 4)) [] []
theorem t_is_integer : trS 40 60 (C_is_integer) (defBody (top 4)) = some (m_is_integer) := by kernel_rfl
theorem s_is_integer : FnScope N_is_integer ["value"] (defScope (top 4)) := ⟨rfl, rfl, rfl, by decide +kernel, rfl, by decide +kernel, by decide +kernel⟩
def C_is_monomial : Ck := ck N_is_monomial (defScope (top 6)) [("is_integer", 1, φ_is_integer)] []
theorem t_is_monomial : trS 40 60 (C_is_monomial) (defBody (top 6)) = some (m_is_monomial) := by kernel_rfl
theorem s_is_monomial : FnScope N_is_monomial ["value", "count"] (defScope (top 6)) := ⟨rfl, rfl, rfl, by decide +kernel, rfl, by decide +kernel, by decide +kernel⟩
def C_times : Ck := ck N_times (defScope (top 7)) [] []
theorem t_times : trS 40 60 (C_times) (defBody (top 7)) = some (m_times) := by kernel_rfl
theorem s_times : FnScope N_times ["one", "other"] (defScope (top 7)) := ⟨rfl, rfl, rfl, by decide +kernel, rfl, by decide +kernel, by decide +kernel⟩
def C_divides : Ck := ck N_divides (defScope (top 8)) [] []
theorem t_divides : trS 40 60 (C_divides) (defBody (top 8)) = some (m_divides) := by kernel_rfl
theorem s_divides : FnScope N_divides ["one", "other"] (defScope (top 8)) := ⟨rfl, rfl, rfl, by decide +kernel, rfl, by decide +kernel, by decide +kernel⟩
def C_lcm : Ck := ck N_lcm (defScope (top 9)) [] []
theorem t_lcm : trS 40 60 (C_lcm) (defBody (top 9)) = some (m_lcm) := by kernel_rfl
theorem s_lcm : FnScope N_lcm ["one", "other"] (defScope (top 9)) := ⟨rfl, rfl, rfl, by decide +kernel, rfl, by decide +kernel, by decide +kernel⟩
def C_unit : Ck := ck N_unit (defScope (top 10)) [] []
theorem t_unit : trS 40 60 (C_unit) (defBody (top 10)) = some (m_unit) := by kernel_rfl
theorem s_unit : FnScope N_unit ["count"] (defScope (top 10)) := ⟨rfl, rfl, rfl, by decide +kernel, rfl, by decide +kernel, by decide +kernel⟩
def C_check_monomials : Ck := ck N_check_monomials (defScope (top 13)) [("is_monomial", 2, φ_is_monomial)] []
theorem t_check_monomials : trS 40 60 (C_check_monomials) (defBody (top 13)) = some (m_check_monomials) := by kernel_rfl
theorem s_check_monomials : FnScope N_check_monomials ["value", "count"] (defScope (top 13)) := ⟨rfl, rfl, rfl, by decide +kernel, rfl, by decide +kernel, by decide +kernel⟩
def C_least : Ck := ck N_least (defScope (top 14)) [("divides", 2, φ_divides)] []
theorem t_least : trS 40 60 (C_least) (defBody (top 14)) = some (m_least) := by kernel_rfl
theorem s_least : FnScope N_least ["monomials"] (defScope (top 14)) := ⟨rfl, rfl, rfl, by decide +kernel, rfl, by decide +kernel, by decide +kernel⟩
def C_holds : Ck := ck N_holds (defScope (top 15)) [("divides", 2, φ_divides)] []
theorem t_holds : trS 40 60 (C_holds) (defBody (top 15)) = some (m_holds) := by kernel_rfl
theorem s_holds : FnScope N_holds ["monomials", "one"] (defScope (top 15)) := ⟨rfl, rfl, rfl, by decide +kernel, rfl, by decide +kernel, by decide +kernel⟩
def C_shared : Ck := ck N_shared (defScope (top 16)) [("least", 1, φ_least), ("lcm", 2, φ_lcm)] []
theorem t_shared : trS 40 60 (C_shared) (defBody (top 16)) = some (m_shared) := by kernel_rfl
theorem s_shared : FnScope N_shared ["one", "other"] (defScope (top 16)) := ⟨rfl, rfl, rfl, by decide +kernel, rfl, by decide +kernel, by decide +kernel⟩
def C_multiplied : Ck := ck N_multiplied (defScope (top 17)) [("least", 1, φ_least), ("times", 2, φ_times)] []
theorem t_multiplied : trS 40 60 (C_multiplied) (defBody (top 17)) = some (m_multiplied) := by kernel_rfl
theorem s_multiplied : FnScope N_multiplied ["one", "other"] (defScope (top 17)) := ⟨rfl, rfl, rfl, by decide +kernel, rfl, by decide +kernel, by decide +kernel⟩
def C_over : Ck := ck N_over (defScope (top 18)) [("least", 1, φ_least)] []
theorem t_over : trS 40 60 (C_over) (defBody (top 18)) = some (m_over) := by kernel_rfl
theorem s_over : FnScope N_over ["monomials", "one"] (defScope (top 18)) := ⟨rfl, rfl, rfl, by decide +kernel, rfl, by decide +kernel, by decide +kernel⟩
def C_over_all : Ck := ck N_over_all (defScope (top 19)) [("unit", 1, φ_unit), ("shared", 2, φ_shared), ("over", 2, φ_over)] []
theorem t_over_all : trS 40 60 (C_over_all) (defBody (top 19)) = some (m_over_all) := by kernel_rfl
theorem s_over_all : FnScope N_over_all ["monomials", "others", "count"] (defScope (top 19)) := ⟨rfl, rfl, rfl, by decide +kernel, rfl, by decide +kernel, by decide +kernel⟩
def C_radical : Ck := ck N_radical (defScope (top 20)) [("least", 1, φ_least)] []
theorem t_radical : trS 40 60 (C_radical) (defBody (top 20)) = some (m_radical) := by kernel_rfl
theorem s_radical : FnScope N_radical ["monomials"] (defScope (top 20)) := ⟨rfl, rfl, rfl, by decide +kernel, rfl, by decide +kernel, by decide +kernel⟩
def C_is_square_free : Ck := ck N_is_square_free (defScope (top 21)) [("least", 1, φ_least)] []
theorem t_is_square_free : trS 40 60 (C_is_square_free) (defBody (top 21)) = some (m_is_square_free) := by kernel_rfl
theorem s_is_square_free : FnScope N_is_square_free ["monomials"] (defScope (top 21)) := ⟨rfl, rfl, rfl, by decide +kernel, rfl, by decide +kernel, by decide +kernel⟩
def C__law_tape : Ck := ck N__law_tape (defScope (top 23)) [] [54012, 54011]
theorem t__law_tape : trS 40 60 (C__law_tape) (defBody (top 23)) = some (m__law_tape) := by kernel_rfl
theorem s__law_tape : FnScope N__law_tape ["script"] (defScope (top 23)) := ⟨rfl, rfl, rfl, by decide +kernel, rfl, by decide +kernel, by decide +kernel⟩
def C__law_draw : Ck := ck N__law_draw (defScope (top 24)) [] []
theorem t__law_draw : trS 40 60 (C__law_draw) (defBody (top 24)) = some (m__law_draw) := by kernel_rfl
theorem s__law_draw : FnScope N__law_draw ["tape", "many"] (defScope (top 24)) := ⟨rfl, rfl, rfl, by decide +kernel, rfl, by decide +kernel, by decide +kernel⟩
def C__law_pick : Ck := ck N__law_pick (defScope (top 25)) [("_law_draw", 2, φ__law_draw)] []
theorem t__law_pick : trS 40 60 (C__law_pick) (defBody (top 25)) = some (m__law_pick) := by kernel_rfl
theorem s__law_pick : FnScope N__law_pick ["tape", "row"] (defScope (top 25)) := ⟨rfl, rfl, rfl, by decide +kernel, rfl, by decide +kernel, by decide +kernel⟩
def C__law_same (self : List D → M D) : Ck := ck N__law_same (defScope (top 26)) [("_law_same", 2, self)] []
theorem t__law_same (self : List D → M D) : trS 40 60 (C__law_same self) (defBody (top 26)) = some (m__law_same self) := by kernel_rfl
theorem s__law_same : FnScope N__law_same ["one", "other"] (defScope (top 26)) := ⟨rfl, rfl, rfl, by decide +kernel, rfl, by decide +kernel, by decide +kernel⟩
def C__law_box : Ck := ck N__law_box (defScope (top 27)) [] []
theorem t__law_box : trS 40 60 (C__law_box) (defBody (top 27)) = some (m__law_box) := by kernel_rfl
theorem s__law_box : FnScope N__law_box ["count", "most"] (defScope (top 27)) := ⟨rfl, rfl, rfl, by decide +kernel, rfl, by decide +kernel, by decide +kernel⟩
def C__law_monomials : Ck := ck N__law_monomials (defScope (top 28)) [("_law_draw", 2, φ__law_draw)] []
theorem t__law_monomials : trS 40 60 (C__law_monomials) (defBody (top 28)) = some (m__law_monomials) := by kernel_rfl
theorem s__law_monomials : FnScope N__law_monomials ["tape", "count", "most", "number"] (defScope (top 28)) := ⟨rfl, rfl, rfl, by decide +kernel, rfl, by decide +kernel, by decide +kernel⟩
def C__law_divides : Ck := ck N__law_divides (defScope (top 29)) [] []
theorem t__law_divides : trS 40 60 (C__law_divides) (defBody (top 29)) = some (m__law_divides) := by kernel_rfl
theorem s__law_divides : FnScope N__law_divides ["one", "other"] (defScope (top 29)) := ⟨rfl, rfl, rfl, by decide +kernel, rfl, by decide +kernel, by decide +kernel⟩
def C__law_held : Ck := ck N__law_held (defScope (top 30)) [("_law_divides", 2, φ__law_divides)] []
theorem t__law_held : trS 40 60 (C__law_held) (defBody (top 30)) = some (m__law_held) := by kernel_rfl
theorem s__law_held : FnScope N__law_held ["rows", "one"] (defScope (top 30)) := ⟨rfl, rfl, rfl, by decide +kernel, rfl, by decide +kernel, by decide +kernel⟩
def C__law_least : Ck := ck N__law_least (defScope (top 31)) [("_law_divides", 2, φ__law_divides)] []
theorem t__law_least : trS 40 60 (C__law_least) (defBody (top 31)) = some (m__law_least) := by kernel_rfl
theorem s__law_least : FnScope N__law_least ["rows"] (defScope (top 31)) := ⟨rfl, rfl, rfl, by decide +kernel, rfl, by decide +kernel, by decide +kernel⟩
def C__law_degree : Ck := ck N__law_degree (defScope (top 32)) [("_law_box", 2, φ__law_box)] []
theorem t__law_degree : trS 40 60 (C__law_degree) (defBody (top 32)) = some (m__law_degree) := by kernel_rfl
theorem s__law_degree : FnScope N__law_degree ["count", "size"] (defScope (top 32)) := ⟨rfl, rfl, rfl, by decide +kernel, rfl, by decide +kernel, by decide +kernel⟩
def C__law_plus : Ck := ck N__law_plus (defScope (top 33)) [] []
theorem t__law_plus : trS 40 60 (C__law_plus) (defBody (top 33)) = some (m__law_plus) := by kernel_rfl
theorem s__law_plus : FnScope N__law_plus ["one", "other"] (defScope (top 33)) := ⟨rfl, rfl, rfl, by decide +kernel, rfl, by decide +kernel, by decide +kernel⟩
def C__law_told : Ck := ck N__law_told (defScope (top 34)) [("check_monomials", 2, φ_check_monomials)] []
theorem t__law_told : trS 40 60 (C__law_told) (defBody (top 34)) = some (m__law_told) := by kernel_rfl
theorem s__law_told : FnScope N__law_told ["value", "count"] (defScope (top 34)) := ⟨rfl, rfl, rfl, by decide +kernel, rfl, by decide +kernel, by decide +kernel⟩
def C_law : Ck := ck N_law (defScope (top 35)) [("_law_tape", 1, φ__law_tape), ("_law_box", 2, φ__law_box), ("over_all", 3, φ_over_all), ("_law_pick", 2, φ__law_pick), ("_law_draw", 2, φ__law_draw), ("_law_monomials", 4, φ__law_monomials), ("shared", 2, φ_shared), ("multiplied", 2, φ_multiplied), ("over", 2, φ_over), ("radical", 1, φ_radical), ("_law_same", 2, (φ__law_same 9)), ("_law_held", 2, φ__law_held), ("_law_least", 1, φ__law_least), ("is_square_free", 1, φ_is_square_free), ("_law_told", 2, φ__law_told), ("least", 1, φ_least), ("_law_plus", 2, φ__law_plus), ("holds", 2, φ_holds)] []
theorem t_law : trS 40 60 (C_law) (defBody (top 35)) = some (m_law) := by kernel_rfl
theorem s_law : FnScope N_law ["script"] (defScope (top 35)) := ⟨rfl, rfl, rfl, by decide +kernel, rfl, by decide +kernel, by decide +kernel⟩

theorem fnA_bad {P : Program} {w : World} {K : PySem.W.Frag} {mg : Str → Option Value} {base : Heap} {ex : Nat → Addr} {k : Nat} {x : Str} {ps : List Str} {a : Addr} {fd : FuncData} (kp : PySem.W.keepIn K (.ref a) = true) (hg : mg x = some (.ref a)) (hb : Binds K fd ps []) : FnA P w K mg base ex k x ps (fun _ => bad) :=
  ⟨a, fd, hg, kp, hb, ⟨fun vs H Q E h => h.1, fun A outer s H args us vs Q E _ _ _ _ h => by
    obtain ⟨_, _, _, _, _, _, z⟩ := h
    exact z.elim⟩⟩
def exA (K : PySem.W.Frag) : Nat → Addr := fun i => He.ga K (match i with
  | 0 => "BadList"
  | _ => "")
set_option maxHeartbeats 8000000 in
theorem all_ok {P : Program} {w : World} {K : PySem.W.Frag} {h : Heap} {mg : Str → Option Value} (X : K.In h) (G : h.Ns mainGlobals mg) (c : He.SaysD fa fn K) (nt : NoTup K) {fd27 : FuncData} (F27 : FunD K (mkD "law" 35).name (mkD "law" 35).qual (mkD "law" 35).params (mkD "law" 35).body (mkD "law" 35).scope ((mkD "law" 35).dvs K) ((mkD "law" 35).kws K) (He.fAd K (mkD "law" 35).at_) fd27) (base : Heap) : FnOk P w K mg base (L2.CX P w) 20 (He.ga K "law") fd27 ["script"] (spF ⟨K, P, w, exA K⟩ 1 φ_law) := by
  have hgl : ∀ (i : Nat) (n : Str), fa[i]? = some (.glo n) → mg n = some (.ref (He.ga K n)) := fun i n e => He.glo_ok X G (c.fact i e)
  generalize hex : exA K = ex
  have e0 : ex 0 = He.ga K "BadList" := by rw [← hex]; rfl
  have hfree : ∀ x ∈ frees, mg x = none := fun x hx => He.free_ok X G (c.facts (show He.Fa.free x ∈ fa from by
    have e : fa = fa.take 31 ++ (frees.map He.Fa.free ++ [.int "MOST_MONOMIALS" 40]) := rfl
    rw [e]
    exact List.mem_append_right _ (List.mem_append_left _ (List.mem_map.mpr ⟨x, hx, rfl⟩))))
  have hglo : ∀ x d, glos.lookup x = some d → ∃ u v, mg x = some u ∧ RelV v u ∧ ∀ W, Dp K W v d := fun x d e => by
    have m := PySem.mem_of_lookup e
    have m' : (x, d) = (("MOST_MONOMIALS" : Str), PyData.int 40) := List.mem_singleton.mp m
    cases m'
    obtain ⟨t, ht⟩ := He.int_ok X G (c.facts (f := .int "MOST_MONOMIALS" 40) (show _ ∈ fa from by
      have e : fa = fa.take 31 ++ (frees.map He.Fa.free ++ [.int "MOST_MONOMIALS" 40]) := rfl
      rw [e]
      exact List.mem_append_right _ (List.mem_append_right _ (List.mem_singleton.mpr rfl))))
    exact ⟨_, .int 40, ht, ⟨t, rfl⟩, fun W => .int 40⟩
  have hexs : ∀ x d, exsL.lookup x = some d → mg x = some (.ref (ex d)) ∧ PySem.W.keepIn K (.ref (ex d)) = true ∧ PySem.W.excIn K (ex d) He.veBase "ValueError.__new__" = true ∧ PySem.W.subIn K (.ref (ex d)) (.type "BaseException") = some true ∧ PySem.W.typeIn K (.ref (ex d)) = some (.type "type") := fun x d e => by
    have m := PySem.mem_of_lookup e
    have m' : (x, d) = (("BadList" : Str), 0) := List.mem_singleton.mp m
    cases m'
    obtain ⟨h1, h2, h3, h4⟩ := He.exc_ok (c.fact 29 (f := .exc "BadList") rfl)
    rw [e0]
    exact ⟨hgl 28 "BadList" rfl, h2, h1, h3, h4⟩
  have hisa : ∀ a b r, isa0 a b = some r → PySem.W.exmOne K (.ref (ex a)) (.ref (ex b)) = some r := fun a b r e => by
    unfold isa0 at e
    split at e
    · rename_i h
      cases e
      rw [h.1, h.2, e0]
      exact He.exm_ok (c.fact 30 (f := .exm "BadList" "BadList" true) rfl)
    · cases e
  have ctx : ∀ {N : List Str} {sc : Scope} {fs : List (Str × Nat × (List D → M D))} {mu : List Nat} {k : Nat}, (∀ p ∈ fs, ∃ ps : List Str, ps.length = p.2.1 ∧ FnA P w K mg base ex k p.1 ps p.2.2) → Ctx P w K mg base ex (ck N sc fs mu) k := fun h =>
    ⟨hfree, hglo, fun x q e => h (x, q) (PySem.mem_of_lookup e), hexs, hisa, nt⟩
  have mkCtx := @ctx
  obtain ⟨fd0, F0⟩ := c.def_ 0 (d := mkD "is_integer" 4) rfl
  have b0 : Binds K fd0 ["value"] [] := FunD.bindsN (ps := ["value"]) F0 fun _ _ _ _ _ _ us hl => match us, hl with | [_], _ => rfl
  have h_is_integer : FnA P w K mg base ex 1 "is_integer" ["value"] φ_is_integer := fn_ok (C := C_is_integer) (k := 0) (mkCtx (fun _ h => absurd h List.not_mem_nil)) F0 s_is_integer rfl t_is_integer (hgl 0 "is_integer" rfl) b0
  obtain ⟨fd1, F1⟩ := c.def_ 1 (d := mkD "is_monomial" 6) rfl
  have b1 : Binds K fd1 ["value", "count"] [] := FunD.bindsN (ps := ["value", "count"]) F1 fun _ _ _ _ _ _ us hl => match us, hl with | [_, _], _ => rfl
  have h_is_monomial : FnA P w K mg base ex 2 "is_monomial" ["value", "count"] φ_is_monomial := fn_ok (C := C_is_monomial) (k := 1) (mkCtx (List.forall_mem_cons.mpr ⟨⟨["value"], rfl, FnA.mono (h_is_integer) (by decide)⟩, fun _ h => absurd h List.not_mem_nil⟩)) F1 s_is_monomial rfl t_is_monomial (hgl 1 "is_monomial" rfl) b1
  obtain ⟨fd2, F2⟩ := c.def_ 2 (d := mkD "times" 7) rfl
  have b2 : Binds K fd2 ["one", "other"] [] := FunD.bindsN (ps := ["one", "other"]) F2 fun _ _ _ _ _ _ us hl => match us, hl with | [_, _], _ => rfl
  have h_times : FnA P w K mg base ex 1 "times" ["one", "other"] φ_times := fn_ok (C := C_times) (k := 0) (mkCtx (fun _ h => absurd h List.not_mem_nil)) F2 s_times rfl t_times (hgl 2 "times" rfl) b2
  obtain ⟨fd3, F3⟩ := c.def_ 3 (d := mkD "divides" 8) rfl
  have b3 : Binds K fd3 ["one", "other"] [] := FunD.bindsN (ps := ["one", "other"]) F3 fun _ _ _ _ _ _ us hl => match us, hl with | [_, _], _ => rfl
  have h_divides : FnA P w K mg base ex 1 "divides" ["one", "other"] φ_divides := fn_ok (C := C_divides) (k := 0) (mkCtx (fun _ h => absurd h List.not_mem_nil)) F3 s_divides rfl t_divides (hgl 3 "divides" rfl) b3
  obtain ⟨fd4, F4⟩ := c.def_ 4 (d := mkD "lcm" 9) rfl
  have b4 : Binds K fd4 ["one", "other"] [] := FunD.bindsN (ps := ["one", "other"]) F4 fun _ _ _ _ _ _ us hl => match us, hl with | [_, _], _ => rfl
  have h_lcm : FnA P w K mg base ex 1 "lcm" ["one", "other"] φ_lcm := fn_ok (C := C_lcm) (k := 0) (mkCtx (fun _ h => absurd h List.not_mem_nil)) F4 s_lcm rfl t_lcm (hgl 4 "lcm" rfl) b4
  obtain ⟨fd5, F5⟩ := c.def_ 5 (d := mkD "unit" 10) rfl
  have b5 : Binds K fd5 ["count"] [] := FunD.bindsN (ps := ["count"]) F5 fun _ _ _ _ _ _ us hl => match us, hl with | [_], _ => rfl
  have h_unit : FnA P w K mg base ex 1 "unit" ["count"] φ_unit := fn_ok (C := C_unit) (k := 0) (mkCtx (fun _ h => absurd h List.not_mem_nil)) F5 s_unit rfl t_unit (hgl 5 "unit" rfl) b5
  obtain ⟨fd6, F6⟩ := c.def_ 6 (d := mkD "check_monomials" 13) rfl
  have b6 : Binds K fd6 ["value", "count"] [] := FunD.bindsN (ps := ["value", "count"]) F6 fun _ _ _ _ _ _ us hl => match us, hl with | [_, _], _ => rfl
  have h_check_monomials : FnA P w K mg base ex 3 "check_monomials" ["value", "count"] φ_check_monomials := fn_ok (C := C_check_monomials) (k := 2) (mkCtx (List.forall_mem_cons.mpr ⟨⟨["value", "count"], rfl, FnA.mono (h_is_monomial) (by decide)⟩, fun _ h => absurd h List.not_mem_nil⟩)) F6 s_check_monomials rfl t_check_monomials (hgl 6 "check_monomials" rfl) b6
  obtain ⟨fd7, F7⟩ := c.def_ 7 (d := mkD "least" 14) rfl
  have b7 : Binds K fd7 ["monomials"] [] := FunD.bindsN (ps := ["monomials"]) F7 fun _ _ _ _ _ _ us hl => match us, hl with | [_], _ => rfl
  have h_least : FnA P w K mg base ex 2 "least" ["monomials"] φ_least := fn_ok (C := C_least) (k := 1) (mkCtx (List.forall_mem_cons.mpr ⟨⟨["one", "other"], rfl, FnA.mono (h_divides) (by decide)⟩, fun _ h => absurd h List.not_mem_nil⟩)) F7 s_least rfl t_least (hgl 7 "least" rfl) b7
  obtain ⟨fd8, F8⟩ := c.def_ 8 (d := mkD "holds" 15) rfl
  have b8 : Binds K fd8 ["monomials", "one"] [] := FunD.bindsN (ps := ["monomials", "one"]) F8 fun _ _ _ _ _ _ us hl => match us, hl with | [_, _], _ => rfl
  have h_holds : FnA P w K mg base ex 2 "holds" ["monomials", "one"] φ_holds := fn_ok (C := C_holds) (k := 1) (mkCtx (List.forall_mem_cons.mpr ⟨⟨["one", "other"], rfl, FnA.mono (h_divides) (by decide)⟩, fun _ h => absurd h List.not_mem_nil⟩)) F8 s_holds rfl t_holds (hgl 8 "holds" rfl) b8
  obtain ⟨fd9, F9⟩ := c.def_ 9 (d := mkD "shared" 16) rfl
  have b9 : Binds K fd9 ["one", "other"] [] := FunD.bindsN (ps := ["one", "other"]) F9 fun _ _ _ _ _ _ us hl => match us, hl with | [_, _], _ => rfl
  have h_shared : FnA P w K mg base ex 3 "shared" ["one", "other"] φ_shared := fn_ok (C := C_shared) (k := 2) (mkCtx (List.forall_mem_cons.mpr ⟨⟨["monomials"], rfl, FnA.mono (h_least) (by decide)⟩, List.forall_mem_cons.mpr ⟨⟨["one", "other"], rfl, FnA.mono (h_lcm) (by decide)⟩, fun _ h => absurd h List.not_mem_nil⟩⟩)) F9 s_shared rfl t_shared (hgl 9 "shared" rfl) b9
  obtain ⟨fd10, F10⟩ := c.def_ 10 (d := mkD "multiplied" 17) rfl
  have b10 : Binds K fd10 ["one", "other"] [] := FunD.bindsN (ps := ["one", "other"]) F10 fun _ _ _ _ _ _ us hl => match us, hl with | [_, _], _ => rfl
  have h_multiplied : FnA P w K mg base ex 3 "multiplied" ["one", "other"] φ_multiplied := fn_ok (C := C_multiplied) (k := 2) (mkCtx (List.forall_mem_cons.mpr ⟨⟨["monomials"], rfl, FnA.mono (h_least) (by decide)⟩, List.forall_mem_cons.mpr ⟨⟨["one", "other"], rfl, FnA.mono (h_times) (by decide)⟩, fun _ h => absurd h List.not_mem_nil⟩⟩)) F10 s_multiplied rfl t_multiplied (hgl 10 "multiplied" rfl) b10
  obtain ⟨fd11, F11⟩ := c.def_ 11 (d := mkD "over" 18) rfl
  have b11 : Binds K fd11 ["monomials", "one"] [] := FunD.bindsN (ps := ["monomials", "one"]) F11 fun _ _ _ _ _ _ us hl => match us, hl with | [_, _], _ => rfl
  have h_over : FnA P w K mg base ex 3 "over" ["monomials", "one"] φ_over := fn_ok (C := C_over) (k := 2) (mkCtx (List.forall_mem_cons.mpr ⟨⟨["monomials"], rfl, FnA.mono (h_least) (by decide)⟩, fun _ h => absurd h List.not_mem_nil⟩)) F11 s_over rfl t_over (hgl 11 "over" rfl) b11
  obtain ⟨fd12, F12⟩ := c.def_ 12 (d := mkD "over_all" 19) rfl
  have b12 : Binds K fd12 ["monomials", "others", "count"] [] := FunD.bindsN (ps := ["monomials", "others", "count"]) F12 fun _ _ _ _ _ _ us hl => match us, hl with | [_, _, _], _ => rfl
  have h_over_all : FnA P w K mg base ex 4 "over_all" ["monomials", "others", "count"] φ_over_all := fn_ok (C := C_over_all) (k := 3) (mkCtx (List.forall_mem_cons.mpr ⟨⟨["count"], rfl, FnA.mono (h_unit) (by decide)⟩, List.forall_mem_cons.mpr ⟨⟨["one", "other"], rfl, FnA.mono (h_shared) (by decide)⟩, List.forall_mem_cons.mpr ⟨⟨["monomials", "one"], rfl, FnA.mono (h_over) (by decide)⟩, fun _ h => absurd h List.not_mem_nil⟩⟩⟩)) F12 s_over_all rfl t_over_all (hgl 12 "over_all" rfl) b12
  obtain ⟨fd13, F13⟩ := c.def_ 13 (d := mkD "radical" 20) rfl
  have b13 : Binds K fd13 ["monomials"] [] := FunD.bindsN (ps := ["monomials"]) F13 fun _ _ _ _ _ _ us hl => match us, hl with | [_], _ => rfl
  have h_radical : FnA P w K mg base ex 3 "radical" ["monomials"] φ_radical := fn_ok (C := C_radical) (k := 2) (mkCtx (List.forall_mem_cons.mpr ⟨⟨["monomials"], rfl, FnA.mono (h_least) (by decide)⟩, fun _ h => absurd h List.not_mem_nil⟩)) F13 s_radical rfl t_radical (hgl 13 "radical" rfl) b13
  obtain ⟨fd14, F14⟩ := c.def_ 14 (d := mkD "is_square_free" 21) rfl
  have b14 : Binds K fd14 ["monomials"] [] := FunD.bindsN (ps := ["monomials"]) F14 fun _ _ _ _ _ _ us hl => match us, hl with | [_], _ => rfl
  have h_is_square_free : FnA P w K mg base ex 3 "is_square_free" ["monomials"] φ_is_square_free := fn_ok (C := C_is_square_free) (k := 2) (mkCtx (List.forall_mem_cons.mpr ⟨⟨["monomials"], rfl, FnA.mono (h_least) (by decide)⟩, fun _ h => absurd h List.not_mem_nil⟩)) F14 s_is_square_free rfl t_is_square_free (hgl 14 "is_square_free" rfl) b14
  obtain ⟨fd15, F15⟩ := c.def_ 15 (d := mkD "_law_tape" 23) rfl
  have b15 : Binds K fd15 ["script"] [] := FunD.bindsN (ps := ["script"]) F15 fun _ _ _ _ _ _ us hl => match us, hl with | [_], _ => rfl
  have h__law_tape : FnA P w K mg base ex 1 "_law_tape" ["script"] φ__law_tape := fn_ok (C := C__law_tape) (k := 0) (mkCtx (fun _ h => absurd h List.not_mem_nil)) F15 s__law_tape rfl t__law_tape (hgl 15 "_law_tape" rfl) b15
  obtain ⟨fd16, F16⟩ := c.def_ 16 (d := mkD "_law_draw" 24) rfl
  have b16 : Binds K fd16 ["tape", "many"] [] := FunD.bindsN (ps := ["tape", "many"]) F16 fun _ _ _ _ _ _ us hl => match us, hl with | [_, _], _ => rfl
  have h__law_draw : FnA P w K mg base ex 1 "_law_draw" ["tape", "many"] φ__law_draw := fn_ok (C := C__law_draw) (k := 0) (mkCtx (fun _ h => absurd h List.not_mem_nil)) F16 s__law_draw rfl t__law_draw (hgl 16 "_law_draw" rfl) b16
  obtain ⟨fd17, F17⟩ := c.def_ 17 (d := mkD "_law_pick" 25) rfl
  have b17 : Binds K fd17 ["tape", "row"] [] := FunD.bindsN (ps := ["tape", "row"]) F17 fun _ _ _ _ _ _ us hl => match us, hl with | [_, _], _ => rfl
  have h__law_pick : FnA P w K mg base ex 2 "_law_pick" ["tape", "row"] φ__law_pick := fn_ok (C := C__law_pick) (k := 1) (mkCtx (List.forall_mem_cons.mpr ⟨⟨["tape", "many"], rfl, FnA.mono (h__law_draw) (by decide)⟩, fun _ h => absurd h List.not_mem_nil⟩)) F17 s__law_pick rfl t__law_pick (hgl 17 "_law_pick" rfl) b17
  obtain ⟨fd18, F18⟩ := c.def_ 18 (d := mkD "_law_same" 26) rfl
  have b18 : Binds K fd18 ["one", "other"] [] := FunD.bindsN (ps := ["one", "other"]) F18 fun _ _ _ _ _ _ us hl => match us, hl with | [_, _], _ => rfl
  have h__law_same : ∀ n, FnA P w K mg base ex (1 + n) "_law_same" ["one", "other"] (φ__law_same n) := by
    intro n
    induction n with
    | zero => exact fnA_bad F18.kp (hgl 18 "_law_same" rfl) b18
    | succ n hs => exact fn_ok (C := C__law_same (φ__law_same n)) (k := 1 + n) (mkCtx (List.forall_mem_cons.mpr ⟨⟨["one", "other"], rfl, hs⟩, fun _ h => absurd h List.not_mem_nil⟩)) F18 s__law_same rfl (t__law_same _) (hgl 18 "_law_same" rfl) b18
  obtain ⟨fd19, F19⟩ := c.def_ 19 (d := mkD "_law_box" 27) rfl
  have b19 : Binds K fd19 ["count", "most"] [] := FunD.bindsN (ps := ["count", "most"]) F19 fun _ _ _ _ _ _ us hl => match us, hl with | [_, _], _ => rfl
  have h__law_box : FnA P w K mg base ex 1 "_law_box" ["count", "most"] φ__law_box := fn_ok (C := C__law_box) (k := 0) (mkCtx (fun _ h => absurd h List.not_mem_nil)) F19 s__law_box rfl t__law_box (hgl 19 "_law_box" rfl) b19
  obtain ⟨fd20, F20⟩ := c.def_ 20 (d := mkD "_law_monomials" 28) rfl
  have b20 : Binds K fd20 ["tape", "count", "most", "number"] [] := FunD.bindsN (ps := ["tape", "count", "most", "number"]) F20 fun _ _ _ _ _ _ us hl => match us, hl with | [_, _, _, _], _ => rfl
  have h__law_monomials : FnA P w K mg base ex 2 "_law_monomials" ["tape", "count", "most", "number"] φ__law_monomials := fn_ok (C := C__law_monomials) (k := 1) (mkCtx (List.forall_mem_cons.mpr ⟨⟨["tape", "many"], rfl, FnA.mono (h__law_draw) (by decide)⟩, fun _ h => absurd h List.not_mem_nil⟩)) F20 s__law_monomials rfl t__law_monomials (hgl 20 "_law_monomials" rfl) b20
  obtain ⟨fd21, F21⟩ := c.def_ 21 (d := mkD "_law_divides" 29) rfl
  have b21 : Binds K fd21 ["one", "other"] [] := FunD.bindsN (ps := ["one", "other"]) F21 fun _ _ _ _ _ _ us hl => match us, hl with | [_, _], _ => rfl
  have h__law_divides : FnA P w K mg base ex 1 "_law_divides" ["one", "other"] φ__law_divides := fn_ok (C := C__law_divides) (k := 0) (mkCtx (fun _ h => absurd h List.not_mem_nil)) F21 s__law_divides rfl t__law_divides (hgl 21 "_law_divides" rfl) b21
  obtain ⟨fd22, F22⟩ := c.def_ 22 (d := mkD "_law_held" 30) rfl
  have b22 : Binds K fd22 ["rows", "one"] [] := FunD.bindsN (ps := ["rows", "one"]) F22 fun _ _ _ _ _ _ us hl => match us, hl with | [_, _], _ => rfl
  have h__law_held : FnA P w K mg base ex 2 "_law_held" ["rows", "one"] φ__law_held := fn_ok (C := C__law_held) (k := 1) (mkCtx (List.forall_mem_cons.mpr ⟨⟨["one", "other"], rfl, FnA.mono (h__law_divides) (by decide)⟩, fun _ h => absurd h List.not_mem_nil⟩)) F22 s__law_held rfl t__law_held (hgl 22 "_law_held" rfl) b22
  obtain ⟨fd23, F23⟩ := c.def_ 23 (d := mkD "_law_least" 31) rfl
  have b23 : Binds K fd23 ["rows"] [] := FunD.bindsN (ps := ["rows"]) F23 fun _ _ _ _ _ _ us hl => match us, hl with | [_], _ => rfl
  have h__law_least : FnA P w K mg base ex 2 "_law_least" ["rows"] φ__law_least := fn_ok (C := C__law_least) (k := 1) (mkCtx (List.forall_mem_cons.mpr ⟨⟨["one", "other"], rfl, FnA.mono (h__law_divides) (by decide)⟩, fun _ h => absurd h List.not_mem_nil⟩)) F23 s__law_least rfl t__law_least (hgl 23 "_law_least" rfl) b23
  obtain ⟨fd24, F24⟩ := c.def_ 24 (d := mkD "_law_degree" 32) rfl
  have b24 : Binds K fd24 ["count", "size"] [] := FunD.bindsN (ps := ["count", "size"]) F24 fun _ _ _ _ _ _ us hl => match us, hl with | [_, _], _ => rfl
  have h__law_degree : FnA P w K mg base ex 2 "_law_degree" ["count", "size"] φ__law_degree := fn_ok (C := C__law_degree) (k := 1) (mkCtx (List.forall_mem_cons.mpr ⟨⟨["count", "most"], rfl, FnA.mono (h__law_box) (by decide)⟩, fun _ h => absurd h List.not_mem_nil⟩)) F24 s__law_degree rfl t__law_degree (hgl 24 "_law_degree" rfl) b24
  obtain ⟨fd25, F25⟩ := c.def_ 25 (d := mkD "_law_plus" 33) rfl
  have b25 : Binds K fd25 ["one", "other"] [] := FunD.bindsN (ps := ["one", "other"]) F25 fun _ _ _ _ _ _ us hl => match us, hl with | [_, _], _ => rfl
  have h__law_plus : FnA P w K mg base ex 1 "_law_plus" ["one", "other"] φ__law_plus := fn_ok (C := C__law_plus) (k := 0) (mkCtx (fun _ h => absurd h List.not_mem_nil)) F25 s__law_plus rfl t__law_plus (hgl 25 "_law_plus" rfl) b25
  obtain ⟨fd26, F26⟩ := c.def_ 26 (d := mkD "_law_told" 34) rfl
  have b26 : Binds K fd26 ["value", "count"] [] := FunD.bindsN (ps := ["value", "count"]) F26 fun _ _ _ _ _ _ us hl => match us, hl with | [_, _], _ => rfl
  have h__law_told : FnA P w K mg base ex 4 "_law_told" ["value", "count"] φ__law_told := fn_ok (C := C__law_told) (k := 3) (mkCtx (List.forall_mem_cons.mpr ⟨⟨["value", "count"], rfl, FnA.mono (h_check_monomials) (by decide)⟩, fun _ h => absurd h List.not_mem_nil⟩)) F26 s__law_told rfl t__law_told (hgl 26 "_law_told" rfl) b26
  exact FnOk.mono (fn_okF (C := C_law) (k := 11) (mkCtx (List.forall_mem_cons.mpr ⟨⟨["script"], rfl, FnA.mono (h__law_tape) (by decide)⟩, List.forall_mem_cons.mpr ⟨⟨["count", "most"], rfl, FnA.mono (h__law_box) (by decide)⟩, List.forall_mem_cons.mpr ⟨⟨["monomials", "others", "count"], rfl, FnA.mono (h_over_all) (by decide)⟩, List.forall_mem_cons.mpr ⟨⟨["tape", "row"], rfl, FnA.mono (h__law_pick) (by decide)⟩, List.forall_mem_cons.mpr ⟨⟨["tape", "many"], rfl, FnA.mono (h__law_draw) (by decide)⟩, List.forall_mem_cons.mpr ⟨⟨["tape", "count", "most", "number"], rfl, FnA.mono (h__law_monomials) (by decide)⟩, List.forall_mem_cons.mpr ⟨⟨["one", "other"], rfl, FnA.mono (h_shared) (by decide)⟩, List.forall_mem_cons.mpr ⟨⟨["one", "other"], rfl, FnA.mono (h_multiplied) (by decide)⟩, List.forall_mem_cons.mpr ⟨⟨["monomials", "one"], rfl, FnA.mono (h_over) (by decide)⟩, List.forall_mem_cons.mpr ⟨⟨["monomials"], rfl, FnA.mono (h_radical) (by decide)⟩, List.forall_mem_cons.mpr ⟨⟨["one", "other"], rfl, FnA.mono (h__law_same 9) (by decide)⟩, List.forall_mem_cons.mpr ⟨⟨["rows", "one"], rfl, FnA.mono (h__law_held) (by decide)⟩, List.forall_mem_cons.mpr ⟨⟨["rows"], rfl, FnA.mono (h__law_least) (by decide)⟩, List.forall_mem_cons.mpr ⟨⟨["monomials"], rfl, FnA.mono (h_is_square_free) (by decide)⟩, List.forall_mem_cons.mpr ⟨⟨["value", "count"], rfl, FnA.mono (h__law_told) (by decide)⟩, List.forall_mem_cons.mpr ⟨⟨["monomials"], rfl, FnA.mono (h_least) (by decide)⟩, List.forall_mem_cons.mpr ⟨⟨["one", "other"], rfl, FnA.mono (h__law_plus) (by decide)⟩, List.forall_mem_cons.mpr ⟨⟨["monomials", "one"], rfl, FnA.mono (h_holds) (by decide)⟩, fun _ h => absurd h List.not_mem_nil⟩⟩⟩⟩⟩⟩⟩⟩⟩⟩⟩⟩⟩⟩⟩⟩⟩⟩)) F27 s_law rfl t_law) (by decide)
end Q30

set_option maxRecDepth 100000
set_option maxHeartbeats 4000000
namespace Q30
open PySem PySem.Spec Fw
abbrev Rw (ks : List (List Int)) : List PyData := ks.map tupI
/-! ## operations on data -/
theorem leP_i (a b : Int) : leP (.int a) (.int b) = some (.bool (decide (a ≤ b))) := by
  have h : leP (.int a) (.int b) = some (.bool (!PySem.W.dataLt (.int b) (.int a))) := rfl
  rw [h, PySem.W.dataLt_int]
  congr 2
  by_cases q : a ≤ b
  · simp [q, Int.not_lt.mpr q]
  · simp [q, Int.not_le.mp q]
theorem geP_i (a b : Int) : geP (.int a) (.int b) = some (.bool (decide (b ≤ a))) := by
  have h : geP (.int a) (.int b) = some (.bool (!PySem.W.dataLt (.int a) (.int b))) := rfl
  rw [h, PySem.W.dataLt_int]
  congr 2
  by_cases q : b ≤ a
  · simp [q, Int.not_lt.mpr q]
  · simp [q, Int.not_le.mp q]
theorem ltP_i (a b : Int) : ltP (.int a) (.int b) = some (.bool (decide (a < b))) := by
  have h : ltP (.int a) (.int b) = some (.bool (PySem.W.dataLt (.int a) (.int b))) := rfl
  rw [h, PySem.W.dataLt_int]
theorem gtP_i (a b : Int) : gtP (.int a) (.int b) = some (.bool (decide (b < a))) := by
  have h : gtP (.int a) (.int b) = some (.bool (PySem.W.dataLt (.int b) (.int a))) := rfl
  rw [h, PySem.W.dataLt_int]
theorem depth_ints : ∀ k : List Int, PyData.depthAll (k.map PyData.int) ≤ 1
  | [] => by show PyData.depthAll [] ≤ 1; decide
  | i :: k => by
    have := depth_ints k
    show max (PyData.int i).depth (PyData.depthAll (k.map PyData.int)) ≤ 1
    exact Nat.max_le.mpr ⟨by show 0 ≤ 1; decide, this⟩
theorem depth_T (k : List Int) : (tupI k).depth ≤ 2 := by
  have := depth_ints k
  show PyData.depthAll (k.map PyData.int) + 1 ≤ 2
  omega
theorem depth_R : ∀ ks : List (List Int), PyData.depthAll (Rw ks) ≤ 2
  | [] => by show PyData.depthAll [] ≤ 2; decide
  | k :: ks => by
    have := depth_R ks
    show max (tupI k).depth (PyData.depthAll (Rw ks)) ≤ 2
    exact Nat.max_le.mpr ⟨depth_T k, this⟩
theorem eqv_ints : ∀ a b : List Int, PyData.eqvAll (a.map .int) (b.map .int) = decide (a = b)
  | [], [] => rfl
  | [], _ :: _ => by simp [PyData.eqvAll]
  | _ :: _, [] => by simp [PyData.eqvAll]
  | x :: a, y :: b => by
    show (PyData.eqv (.int x) (.int y) && PyData.eqvAll (a.map .int) (b.map .int)) = _
    rw [eqv_ints a b]
    show ((x == y) && decide (a = b)) = _
    by_cases h : x = y <;> by_cases h2 : a = b <;> simp [h, h2]
theorem eqv_T (a b : List Int) : PyData.eqv (tupI a) (tupI b) = decide (a = b) := eqv_ints a b
theorem eqv_Rs : ∀ a b : List (List Int), PyData.eqvAll (Rw a) (Rw b) = decide (a = b)
  | [], [] => rfl
  | [], _ :: _ => by simp [PyData.eqvAll]
  | _ :: _, [] => by simp [PyData.eqvAll]
  | x :: a, y :: b => by
    show (PyData.eqv (tupI x) (tupI y) && PyData.eqvAll (Rw a) (Rw b)) = _
    rw [eqv_Rs a b, eqv_T]
    by_cases h : x = y <;> by_cases h2 : a = b <;> simp [h, h2]
theorem neP_T (a b : List Int) : neP (tupI a) (tupI b) = some (.bool (decide (a ≠ b))) := by
  have h : okD (tupI a) (tupI b) = true := decide_eq_true (Nat.le_trans (Nat.min_le_left _ _) (Nat.le_trans (depth_T a) (by decide)))
  unfold neP
  rw [if_pos h, eqv_T]
  simp
theorem neP_R (a b : List (List Int)) : neP (.tuple (Rw a)) (.tuple (Rw b)) = some (.bool (decide (a ≠ b))) := by
  have hd := depth_R a
  have h : okD (.tuple (Rw a)) (.tuple (Rw b)) = true := decide_eq_true (Nat.le_trans (Nat.min_le_left _ _) (by
    show PyData.depthAll (Rw a) + 1 ≤ 64
    omega))
  unfold neP
  rw [if_pos h]
  show some (PyData.bool (!PyData.eqvAll (Rw a) (Rw b))) = _
  rw [eqv_Rs]
  simp
theorem neP_b (a b : Bool) : neP (.bool a) (.bool b) = some (.bool (a != b)) := by
  cases a <;> cases b <;> rfl
theorem eqP_b (a b : Bool) : eqP (.bool a) (.bool b) = some (.bool (a == b)) := by
  cases a <;> cases b <;> rfl
theorem eqP_i (a b : Int) : eqP (.int a) (.int b) = some (.bool (a == b)) := rfl
theorem neP_i (a b : Int) : neP (.int a) (.int b) = some (.bool (a != b)) := rfl
theorem allP_b (bs : List Bool) : allP (.list (bs.map .bool)) = some (.bool (bs.all id)) := by
  show (boolsOf (bs.map .bool)).map (fun bs => PyData.bool (bs.all id)) = _
  rw [boolsOf_map]
  rfl
theorem anyP_b (bs : List Bool) : anyP (.list (bs.map .bool)) = some (.bool (bs.any id)) := by
  show (boolsOf (bs.map .bool)).map (fun bs => PyData.bool (bs.any id)) = _
  rw [boolsOf_map]
  rfl
/-! ## comprehensions -/
theorem compL_pure {turn : D → M (List D)} {f : D → List D} {st : Sto} : ∀ {xs : List D}, (∀ x ∈ xs, turn x st = .ok (f x) st) → compL turn xs st = .ok (xs.flatMap f) st
  | [], _ => rfl
  | x :: xs, h => by
    have h1 := h x List.mem_cons_self
    have h2 := compL_pure (turn := turn) (f := f) fun y hy => h y (List.mem_cons_of_mem _ hy)
    unfold compL
    rw [bnd_ok h1, bnd_ok h2]
    rfl
theorem compR_pure {cap : Nat} {env : Env'} {g : G} {own : List Nat} {body : Env' → M (List D)} {xs : List D} {f : D → List D} {st : Sto} (hl : xs.length ≤ cap) (h : ∀ x ∈ xs, turnG g (wipeE env own) body x st = .ok (f x) st) : compR cap env g own body (.fix xs) st = .ok (xs.flatMap f) st := by
  unfold compR
  show (if xs.length ≤ cap then compS (.fix xs) (turnG g (wipeE env own) body) xs.length 0 st else .bad) = _
  rw [if_pos hl, compS_fix _ _ (by omega)]
  exact compL_pure h
theorem flat_one {α β : Type} (f : α → β) : ∀ xs : List α, xs.flatMap (fun x => [f x]) = xs.map f
  | [] => rfl
  | x :: xs => by rw [List.flatMap_cons, flat_one f xs]; rfl
theorem flat_map {α β γ : Type} (g : α → β) (f : β → List γ) : ∀ xs : List α, (xs.map g).flatMap f = xs.flatMap fun x => f (g x)
  | [] => rfl
  | x :: xs => by rw [List.map_cons, List.flatMap_cons, List.flatMap_cons, flat_map g f xs]
theorem flat_if {α β : Type} (p : α → Bool) (f : α → β) : ∀ xs : List α, xs.flatMap (fun x => if p x = true then [f x] else []) = (xs.filter p).map f
  | [] => rfl
  | x :: xs => by
    rw [List.flatMap_cons, flat_if p f xs]
    by_cases h : p x = true
    · rw [if_pos h, List.filter_cons_of_pos h]; rfl
    · rw [if_neg h, List.filter_cons_of_neg h]; rfl
theorem pures_mapp {α : Type} (h : α → PyData) (xs : List α) : pures (xs.map fun x => D.p (h x)) = some (xs.map h) := by
  have : (xs.map fun x => D.p (h x)) = (xs.map h).map D.p := by rw [List.map_map]; rfl
  rw [this, pures_map]
/-- over data x: h x each, filtered by p -/
theorem comp_data {α : Type} {mi : Env' → M Src} {g : G} {own : List Nat} {t : Env' → M Bool} {m : Env' → M D} {env : Env'} {st st0 : Sto} {xs : List α} {e : α → PyData} {p : α → Bool} {h : α → PyData} (hs : mi env st0 = .ok (.fix (xs.map fun x => .p (e x))) st) (hl : xs.length ≤ 1000000)
    (ht : ∀ x ∈ xs, turnG g (wipeE env own) (bodyC t m) (.p (e x)) st = .ok (if p x = true then [.p (h x)] else []) st) : mComp false mi g own t m env st0 = .ok (.p (.list ((xs.filter p).map h))) st := by
  unfold mComp
  rw [bnd_ok hs]
  have h1 : compR 1000000 env g own (bodyC t m) (.fix (xs.map fun x => .p (e x))) st = .ok ((xs.filter p).map fun x => .p (h x)) st := by
    unfold compR
    show (if (xs.map fun x => D.p (e x)).length ≤ 1000000 then compS (.fix (xs.map fun x => .p (e x))) (turnG g (wipeE env own) (bodyC t m)) (xs.map fun x => D.p (e x)).length 0 st else .bad) = _
    rw [if_pos (by rw [List.length_map]; exact hl), compS_fix _ _ (by omega)]
    show compL _ (xs.map fun x => D.p (e x)) st = _
    clear hs hl
    induction xs with
    | nil => rfl
    | cons x xs ih =>
      rw [List.map_cons]
      unfold compL
      rw [bnd_ok (ht x List.mem_cons_self), bnd_ok (ih fun y hy => ht y (List.mem_cons_of_mem _ hy))]
      by_cases q : p x = true
      · rw [if_pos q, List.filter_cons_of_pos q]; rfl
      · rw [if_neg q, List.filter_cons_of_neg q]; rfl
  rw [bnd_ok h1]
  show (match pures ((xs.filter p).map fun x => D.p (h x)) with
    | some xs => R.ok (D.p (.list xs)) st
    | none => .bad) = _
  rw [pures_mapp]
theorem comp_all {α : Type} {mi : Env' → M Src} {g : G} {own : List Nat} {t : Env' → M Bool} {m : Env' → M D} {env : Env'} {st st0 : Sto} {xs : List α} {e : α → PyData} {h : α → PyData} (hs : mi env st0 = .ok (.fix (xs.map fun x => .p (e x))) st) (hl : xs.length ≤ 1000000)
    (ht : ∀ x ∈ xs, turnG g (wipeE env own) (bodyC t m) (.p (e x)) st = .ok [.p (h x)] st) : mComp false mi g own t m env st0 = .ok (.p (.list (xs.map h))) st := by
  have := comp_data (p := fun _ => true) (h := h) hs hl fun x hx => by rw [if_pos rfl]; exact ht x hx
  rw [this, List.filter_eq_self.mpr (fun _ _ => rfl)]
/-- over a name that holds no dict -/
theorem compV_p {mu : Bool} {i : Nat} {g : G} {own : List Nat} {t : Env' → M Bool} {m : Env' → M D} {env : Env'} {st : Sto} {x : PyData} (h : env[i]? = some (some (.p x))) : mCompV mu i g own t m env st = mComp mu (iSeq (mVar i)) g own t m env st := by
  unfold mCompV
  rw [h]
  rfl
theorem iSeq_tup {i : Nat} {env : Env'} {st : Sto} {xs : List PyData} (h : env[i]? = some (some (.p (.tuple xs)))) : iSeq (mVar i) env st = .ok (.fix (xs.map .p)) st := by
  unfold iSeq mVar
  rw [h]
  rfl
theorem iSeq_lst {i : Nat} {env : Env'} {st : Sto} {xs : List PyData} (h : env[i]? = some (some (.p (.list xs)))) : iSeq (mVar i) env st = .ok (.fix (xs.map .p)) st := by
  unfold iSeq mVar
  rw [h]
  rfl
/-! ## divides -/
def divB (a b : List Int) : Bool := (a.zip b).all fun q => decide (q.1 ≤ q.2)
theorem pairs_T (a b : List Int) : pairs (a.map .int) (b.map .int) = (a.zip b).map fun q => D.p (.tuple [.int q.1, .int q.2]) := by
  unfold pairs
  rw [List.zip_map, List.map_map]
  rfl
/-! ## steps -/
theorem l1 {k : Nat} {f : PyData → Option PyData} {x r : PyData} {st : Sto} (hk : view k (.p x) st = some x) (h : f x = some r) : lft (lift1 k f (.p x)) st = .ok (.p r) st := by
  unfold lft lift1
  rw [hk, Option.bind_some, h]
  rfl
theorem l2 {k : Nat} {f : PyData → PyData → Option PyData} {x y r : PyData} {st : Sto} (hk : view k (.p x) st = some x) (hk2 : view k (.p y) st = some y) (h : f x y = some r) : lft (lift2 k f (.p x) (.p y)) st = .ok (.p r) st := by
  unfold lft lift2
  rw [hk, hk2, Option.bind_some, Option.bind_some, h]
  rfl
theorem e_m1 {m : Env' → M D} {g : Fn1} {env : Env'} {st st1 : Sto} {d : D} {r : Fw.R D} (h : m env st = .ok d st1) (h2 : lft (g d) st1 = r) : m1 m g env st = r := by
  unfold m1
  rw [bnd_ok h]
  exact h2
theorem e_m2 {ma mb : Env' → M D} {g : Fn2} {env : Env'} {st st1 st2 : Sto} {d e : D} {r : Fw.R D} (h : ma env st = .ok d st1) (h1 : mb env st1 = .ok e st2) (h2 : lft (g d e) st2 = r) : m2 ma mb g env st = r := by
  unfold m2
  rw [bnd_ok h, bnd_ok h1]
  exact h2
theorem e_nil {env : Env'} {st : Sto} : aNil env st = .ok [] st := rfl
theorem e_cons {m : Env' → M D} {ms : Env' → M (List D)} {env : Env'} {st st1 st2 : Sto} {d : D} {ds : List D} (h : m env st = .ok d st1) (h1 : ms env st1 = .ok ds st2) : aCons m ms env st = .ok (d :: ds) st2 := by
  unfold aCons
  rw [bnd_ok h, bnd_ok h1]
  rfl
theorem e_mL {ms : Env' → M (List D)} {g : FnL} {env : Env'} {st st1 : Sto} {ds : List D} {r : Fw.R D} (h : ms env st = .ok ds st1) (h2 : lft (g ds) st1 = r) : mL ms g env st = r := by
  unfold mL
  rw [bnd_ok h]
  exact h2
theorem e_call {ms : Env' → M (List D)} {n : Nat} {φ : List D → M D} {env : Env'} {st st1 : Sto} {ds : List D} {r : Fw.R D} (h : ms env st = .ok ds st1) (hn : ds.length = n) (h2 : φ ds st1 = r) : mCall ms (sized n φ) env st = r := by
  unfold mCall sized
  rw [bnd_ok h, if_pos hn]
  exact h2
theorem e_ret {m : Env' → M D} {b : MS} {env : Env'} {st st1 : Sto} {d : D} (h : m env st = .ok d st1) : sSeq (sRet m) b env st = .ret d st1 := by
  unfold sSeq sRet sbnd
  rw [h]
theorem e_nx {a b : MS} {env env1 : Env'} {st st1 : Sto} {r : RS} (h : a env st = .nx env1 st1) (h2 : b env1 st1 = r) : sSeq a b env st = r := by
  unfold sSeq
  rw [h]
  exact h2
theorem e_seqr {a b : MS} {env : Env'} {st st1 : Sto} {d : D} (h : a env st = .ret d st1) : sSeq a b env st = .ret d st1 := by
  unfold sSeq
  rw [h]
theorem e_fn {N : List Str} {m : MS} {ds : List D} {st st1 : Sto} {d : D} (h : m (env0 N ds) st = .ret d st1) : fnDen N m ds st = .ok d st1 := by
  unfold fnDen
  rw [h]
theorem e_fnN {N : List Str} {m : MS} {ds : List D} {st st1 : Sto} {e : Env'} (h : m (env0 N ds) st = .nx e st1) : fnDen N m ds st = .ok (.p .none) st1 := by
  unfold fnDen
  rw [h]
theorem e_set {g : G} {m : Env' → M D} {env env1 : Env'} {st st1 : Sto} {d : D} (h : m env st = .ok d st1) (h2 : gSet g d env = some env1) : sAsg g m env st = .nx env1 st1 := by
  unfold sAsg sbnd
  rw [h]
  simp only [h2]
theorem e_if {c : Env' → M Bool} {a b : MS} {env : Env'} {st st1 : Sto} {k : Bool} {r : RS} (h : c env st = .ok k st1) (h2 : (if k = true then a env st1 else b env st1) = r) : sIf c a b env st = r := by
  unfold sIf sbnd
  rw [h]
  exact h2
theorem e_tB {m : Env' → M D} {env : Env'} {st st1 : Sto} {b : Bool} (h : m env st = .ok (.p (.bool b)) st1) : tB m env st = .ok b st1 := by
  unfold tB
  rw [bnd_ok h]
  rfl
theorem e_tV {m : Env' → M D} {env : Env'} {st st1 : Sto} {b : Bool} (h : m env st = .ok (.p (.bool b)) st1) : tV m env st = .ok b st1 := by
  unfold tV
  rw [bnd_ok h]
  rfl
theorem e_tNt {t : Env' → M Bool} {env : Env'} {st st1 : Sto} {b : Bool} (h : t env st = .ok b st1) : tNt t env st = .ok (!b) st1 := by
  unfold tNt
  rw [bnd_ok h]
  rfl
theorem e_orF {t u : Env' → M Bool} {env : Env'} {st st1 : Sto} {r : Fw.R Bool} (h : t env st = .ok false st1) (h2 : u env st1 = r) : tOrr t u env st = r := by
  unfold tOrr
  rw [bnd_ok h, if_neg Bool.false_ne_true]
  exact h2
theorem e_orT {t u : Env' → M Bool} {env : Env'} {st st1 : Sto} (h : t env st = .ok true st1) : tOrr t u env st = .ok true st1 := by
  unfold tOrr
  rw [bnd_ok h, if_pos rfl]
  rfl
theorem e_andT {t u : Env' → M D} {env : Env'} {st st1 : Sto} {r : Fw.R D} (h : t env st = .ok (.p (.bool true)) st1) (h2 : u env st1 = r) : mAnd t u env st = r := by
  unfold mAnd
  rw [bnd_ok h]
  exact h2
theorem e_andF {t u : Env' → M D} {env : Env'} {st st1 : Sto} (h : t env st = .ok (.p (.bool false)) st1) : mAnd t u env st = .ok (.p (.bool false)) st1 := by
  unfold mAnd
  rw [bnd_ok h]
  rfl
/-- a turn of a comprehension -/
theorem turn1 {g : G} {env env1 : Env'} {m : Env' → M D} {x d : D} {st : Sto} (hg : gSet g x env = some env1) (h : m env1 st = .ok d st) : turnG g env (bodyC tTr m) x st = .ok [d] st := by
  unfold turnG
  rw [hg]
  show noexc (bodyC tTr m env1) st = _
  unfold noexc bodyC
  have e1 : bnd (tTr env1) (fun b => if b = true then bnd (m env1) fun y => Fw.ret [y] else Fw.ret []) st = .ok [d] st := by
    rw [bnd_ok (show tTr env1 st = .ok true st from rfl), if_pos rfl, bnd_ok h]
    rfl
  rw [e1]
theorem turnF {g : G} {env env1 : Env'} {t : Env' → M Bool} {m : Env' → M D} {x d : D} {st : Sto} {b : Bool} (hg : gSet g x env = some env1) (ht : t env1 st = .ok b st) (h : m env1 st = .ok d st) : turnG g env (bodyC t m) x st = .ok (if b = true then [d] else []) st := by
  unfold turnG
  rw [hg]
  show noexc (bodyC t m env1) st = _
  unfold noexc bodyC
  have e1 : bnd (t env1) (fun b => if b = true then bnd (m env1) fun y => Fw.ret [y] else Fw.ret []) st = .ok (if b = true then [d] else []) st := by
    rw [bnd_ok ht]
    cases b with
    | true => rw [if_pos rfl, if_pos rfl, bnd_ok h]; rfl
    | false => rw [if_neg Bool.false_ne_true, if_neg Bool.false_ne_true]; rfl
  rw [e1]
theorem mapb (h : α → Bool) (xs : List α) : (xs.map fun x => PyData.bool (h x)) = (xs.map h).map .bool := by rw [List.map_map]; rfl
theorem all_end {α : Type} {h : α → Bool} {xs : List α} {m : Env' → M D} {env : Env'} {st st1 : Sto} (hm : m env st = .ok (.p (.list (xs.map fun x => .bool (h x)))) st1) : mL (aCons m aNil) (gL1 (lift1 1 allP)) env st = .ok (.p (.bool (xs.all h))) st1 := by
  refine e_mL (e_cons hm e_nil) ?_
  rw [mapb]
  refine (l1 (k := 1) rfl (allP_b _)).trans ?_
  rw [List.all_map]
  rfl
theorem any_end {α : Type} {h : α → Bool} {xs : List α} {m : Env' → M D} {env : Env'} {st st1 : Sto} (hm : m env st = .ok (.p (.list (xs.map fun x => .bool (h x)))) st1) : mL (aCons m aNil) (gL1 (lift1 1 anyP)) env st = .ok (.p (.bool (xs.any h))) st1 := by
  refine e_mL (e_cons hm e_nil) ?_
  rw [mapb]
  refine (l1 (k := 1) rfl (anyP_b _)).trans ?_
  rw [List.any_map]
  rfl
theorem tup_end {xs : List PyData} {m : Env' → M D} {env : Env'} {st st1 : Sto} (hm : m env st = .ok (.p (.list xs)) st1) : mL (aCons m aNil) (gL1 (lift1 1 tupP)) env st = .ok (.p (.tuple xs)) st1 :=
  e_mL (e_cons hm e_nil) (l1 (k := 1) rfl rfl)
/-! ## rows against rows -/
theorem src_zip {env : Env'} {st : Sto} {i j : Nat} {a b : List Int} (h1 : env[i]? = some (some (.p (tupI a)))) (h2 : env[j]? = some (some (.p (tupI b)))) : iArgs (aCons (mVar i) (aCons (mVar j) aNil)) zip2 env st = .ok (.fix ((a.zip b).map fun q => .p (.tuple [.int q.1, .int q.2]))) st := by
  have e1 : aCons (mVar i) (aCons (mVar j) aNil) env st = .ok [.p (tupI a), .p (tupI b)] st := by
    refine e_cons (d := .p (tupI a)) (st1 := st) ?_ (e_cons (d := .p (tupI b)) (st1 := st) ?_ e_nil)
    · unfold mVar; rw [h1]; rfl
    · unfold mVar; rw [h2]; rfl
  unfold iArgs
  rw [bnd_ok e1, ← pairs_T]
  rfl
theorem zlen {a b : List Int} (h : a.length ≤ 1000) : (a.zip b).length ≤ 1000000 := by rw [List.length_zip]; omega
theorem e_divides (a b : List Int) (st : Sto) (hl : a.length ≤ 1000) : φ_divides [.p (tupI a), .p (tupI b)] st = .ok (.p (.bool (divB a b))) st :=
  e_fn (e_ret (all_end (comp_all (h := fun q : Int × Int => .bool (decide (q.1 ≤ q.2))) (src_zip rfl rfl) (zlen hl) fun q _ => turn1 rfl (e_m2 rfl rfl (l2 (k := 3) rfl rfl (leP_i q.1 q.2))))))
theorem e_ldivides (a b : List Int) (st : Sto) (hl : a.length ≤ 1000) : φ__law_divides [.p (tupI a), .p (tupI b)] st = .ok (.p (.bool (divB a b))) st := e_divides a b st hl
theorem zip_tup (f : Int → Int → Int) (a b : List Int) : ((a.zip b).map fun q => PyData.int (f q.1 q.2)) = (a.zipWith f b).map .int := by
  induction a generalizing b with
  | nil => rfl
  | cons x a ih =>
    cases b with
    | nil => rfl
    | cons y b =>
      show PyData.int (f x y) :: ((a.zip b).map fun q => PyData.int (f q.1 q.2)) = PyData.int (f x y) :: (a.zipWith f b).map .int
      rw [ih b]
theorem e_times (a b : List Int) (st : Sto) (hl : a.length ≤ 1000) : φ_times [.p (tupI a), .p (tupI b)] st = .ok (.p (tupI (a.zipWith (· + ·) b))) st := by
  have := comp_all (mi := iArgs (aCons (mVar 0) (aCons (mVar 1) aNil)) zip2) (own := [2, 3]) (g := .tp (.cons (.nm 2) (.cons (.nm 3) .nil))) (m := m2 (mVar 2) (mVar 3) (lift2 1 addP)) (env := env0 N_times [.p (tupI a), .p (tupI b)]) (h := fun q : Int × Int => .int (q.1 + q.2)) (src_zip (st := st) rfl rfl) (zlen hl) fun q _ => turn1 rfl (e_m2 rfl rfl (l2 (k := 1) rfl rfl rfl))
  rw [zip_tup] at this
  exact e_fn (e_ret (tup_end this))
theorem e_plus (a b : List Int) (st : Sto) (hl : a.length ≤ 1000) : φ__law_plus [.p (tupI a), .p (tupI b)] st = .ok (.p (tupI (a.zipWith (· + ·) b))) st := e_times a b st hl
theorem max2_i (a b : Int) : max2P (.int a) (.int b) = some (.int (max a b)) := by
  show some (PyData.int _) = _
  congr 2
  omega
theorem e_lcm (a b : List Int) (st : Sto) (hl : a.length ≤ 1000) : φ_lcm [.p (tupI a), .p (tupI b)] st = .ok (.p (tupI (a.zipWith max b))) st := by
  have := comp_all (mi := iArgs (aCons (mVar 0) (aCons (mVar 1) aNil)) zip2) (own := [2, 3]) (g := .tp (.cons (.nm 2) (.cons (.nm 3) .nil))) (m := mL (aCons (mVar 2) (aCons (mVar 3) aNil)) (gL2 (lift2 1 max2P))) (env := env0 N_lcm [.p (tupI a), .p (tupI b)]) (h := fun q : Int × Int => .int (max q.1 q.2)) (src_zip (st := st) rfl rfl) (zlen hl) fun q _ => turn1 rfl (e_mL (e_cons rfl (e_cons rfl e_nil)) (l2 (k := 1) rfl rfl (max2_i _ _)))
  rw [zip_tup] at this
  exact e_fn (e_ret (tup_end this))
/-! ## what is held -/
def heldB (ks : List (List Int)) (r : List Int) : Bool := ks.any fun k => divB k r
theorem src_rows {env : Env'} {st : Sto} {i : Nat} {ks : List (List Int)} (h : env[i]? = some (some (.p (.tuple (Rw ks))))) : iSeq (mVar i) env st = .ok (.fix (ks.map fun k => .p (tupI k))) st := by
  rw [iSeq_tup h, List.map_map]
  rfl
theorem src_rowsL {env : Env'} {st : Sto} {i : Nat} {ks : List (List Int)} (h : env[i]? = some (some (.p (.list (Rw ks))))) : iSeq (mVar i) env st = .ok (.fix (ks.map fun k => .p (tupI k))) st := by
  rw [iSeq_lst h, List.map_map]
  rfl
theorem e_holds (ks : List (List Int)) (r : List Int) (st : Sto) (hk : ks.length ≤ 1000) (hl : ∀ k ∈ ks, k.length ≤ 1000) : φ_holds [.p (.tuple (Rw ks)), .p (tupI r)] st = .ok (.p (.bool (heldB ks r))) st :=
  e_fn (e_ret (any_end ((compV_p rfl).trans (comp_all (h := fun k => .bool (divB k r)) (src_rows rfl) (by omega) fun k hk => turn1 rfl (e_call (e_cons rfl (e_cons rfl e_nil)) rfl (e_divides k r st (hl k hk)))))))
theorem e_held (ks : List (List Int)) (r : List Int) (st : Sto) (hk : ks.length ≤ 1000) (hl : ∀ k ∈ ks, k.length ≤ 1000) : φ__law_held [.p (.tuple (Rw ks)), .p (tupI r)] st = .ok (.p (.bool (heldB ks r))) st := e_holds ks r st hk hl
end Q30

set_option maxRecDepth 100000
set_option maxHeartbeats 4000000
namespace Q30
open PySem PySem.Spec Fw
open L2 (Key)
/-! ## least ones -/
structure Okc (c : Nat) (ks : List (List Int)) : Prop where
  c1 : 1 ≤ c
  c3 : c ≤ 100
  n : ks.length < 64
  r : ∀ k ∈ ks, k.length = c ∧ ∀ i ∈ k, 0 ≤ i
theorem Okc.okK {c : Nat} {ks : List (List Int)} (h : Okc c ks) : Fw.okK ks = true := by
  unfold Fw.okK
  rw [Bool.and_eq_true]
  refine ⟨decide_eq_true h.n, ?_⟩
  cases ks with
  | nil => rfl
  | cons k0 r =>
    have l0 := (h.r k0 List.mem_cons_self).1
    rw [Bool.and_eq_true]
    refine ⟨decide_eq_true (by rw [l0]; exact h.c1), List.all_eq_true.mpr fun k hk => ?_⟩
    rw [Bool.and_eq_true]
    exact ⟨decide_eq_true (by rw [(h.r k hk).1, l0]), List.all_eq_true.mpr fun i hi => decide_eq_true ((h.r k hk).2 i hi)⟩
theorem ins_len (x : List Int) : ∀ l : List (List Int), (ins x l).length ≤ l.length + 1
  | [] => by simp [ins]
  | y :: r => by
    have := ins_len x r
    unfold ins
    split
    · simp
    · split
      · simp
      · simp only [List.length_cons]; omega
theorem canon_len : ∀ l : List (List Int), (canon l).length ≤ l.length
  | [] => by simp [canon]
  | y :: r => by
    have h1 := canon_len r
    have h2 := ins_len y (canon r)
    show (ins y (canon r)).length ≤ _
    simp only [List.length_cons]
    omega
theorem Okc.canon {c : Nat} {ks : List (List Int)} (h : Okc c ks) : Okc c (Fw.canon ks) := ⟨h.c1, h.c3, Nat.lt_of_le_of_lt (canon_len ks) h.n, fun k hk => h.r k (mem_canon.mp hk)⟩
theorem Okc.filter {c : Nat} {ks : List (List Int)} (h : Okc c ks) (p : List Int → Bool) : Okc c (ks.filter p) := ⟨h.c1, h.c3, Nat.lt_of_le_of_lt (List.length_filter_le _ _) h.n, fun k hk => h.r k (List.mem_filter.mp hk).1⟩
def keepB (cs : List (List Int)) (one : List Int) : Bool := !(cs.any fun other => decide (other ≠ one) && divB other one)
def leastL (ks : List (List Int)) : List (List Int) := (canon ks).filter (keepB (canon ks))
theorem Okc.least {c : Nat} {ks : List (List Int)} (h : Okc c ks) : Okc c (leastL ks) := h.canon.filter _
theorem e_andB {t u : Env' → M D} {env : Env'} {st : Sto} {b c : Bool} (h : t env st = .ok (.p (.bool b)) st) (h2 : u env st = .ok (.p (.bool c)) st) : mAnd t u env st = .ok (.p (.bool (b && c))) st := by
  cases b with
  | true => rw [e_andT h h2]; rfl
  | false => rw [e_andF h]; rfl
theorem Okc.len {c : Nat} {ks : List (List Int)} (h : Okc c ks) : ∀ k ∈ ks, k.length ≤ 1000 := fun k hk => by rw [(h.r k hk).1]; have := h.c3; omega
theorem setF_rows {ks : List (List Int)} (st : Sto) (h : ks.length < 64) {x : PyData} (hx : setF (.p x) st = mkSet (Rw ks) st) : lft (gL1 setF [.p x]) st = .ok (.loc st.length) (st ++ [.set ks]) := by
  show lft (setF (.p x)) st = _
  unfold lft
  rw [hx]
  unfold mkSet
  rw [tis_map]
  simp only [if_pos h]
theorem get_last {st : Sto} {o : Ob} : (st ++ [o])[st.length]? = some o := by
  rw [List.getElem?_append_right (Nat.le_refl _)]
  simp
theorem sortF_set {ks : List (List Int)} (st : Sto) (h : okK ks = true) : lft (gL1 sortF [.loc st.length]) (st ++ [.set ks]) = .ok (.p (.list (Rw (canon ks)))) (st ++ [.set ks]) := by
  show lft (sortF (.loc st.length)) _ = _
  unfold lft sortF
  simp only [get_last, if_pos h]
theorem sortF_dict {kvs : List (List Key × PyData)} {ks : List (List Int)} (st : Sto) (hk : dKeys kvs = some ks) (h : okK ks = true) : lft (gL1 sortF [.loc st.length]) (st ++ [.dT kvs]) = .ok (.p (.list (Rw (canon ks)))) (st ++ [.dT kvs]) := by
  show lft (sortF (.loc st.length)) _ = _
  unfold lft sortF
  simp only [get_last, hk, if_pos h]
/-- the rows that none of the rows divides -/
theorem e_keep {c : Nat} {cs : List (List Int)} (h : Okc c cs) (st : Sto) {x0 : Option D} : mL (aCons (mCompV false 1 (.nm 2) [2] (tNt (tV (mL (aCons (mCompV false 1 (.nm 3) [3] (tTr) (mAnd (m2 (mVar 3) (mVar 2) (lift2 3 neP)) (mCall (aCons (mVar 3) (aCons (mVar 2) (aNil))) (sized 2 φ_divides)))) (aNil)) (gL1 (lift1 1 anyP))))) (mVar 2)) (aNil)) (gL1 (lift1 1 tupP)) [x0, some (.p (.list (Rw cs))), none, none] st = .ok (.p (.tuple (Rw (cs.filter (keepB cs))))) st := by
  have hn := h.n
  refine tup_end ((compV_p rfl).trans (comp_data (p := keepB cs) (h := tupI) (src_rowsL rfl) (by omega) fun one h1 => turnF rfl (e_tNt (e_tV (any_end ((compV_p rfl).trans (comp_all (h := fun other => .bool (decide (other ≠ one) && divB other one)) (src_rowsL rfl) (by omega) fun other h2 => turn1 rfl ?_))))) rfl))
  exact e_andB (e_m2 rfl rfl (l2 (k := 3) rfl rfl (neP_T other one))) (e_call (e_cons rfl (e_cons rfl e_nil)) rfl (e_divides other one st (h.len other h2)))
theorem e_keepL {c : Nat} {cs : List (List Int)} (h : Okc c cs) (st : Sto) {x0 : Option D} : mL (aCons (mCompV false 1 (.nm 2) [2] (tNt (tV (mL (aCons (mCompV false 1 (.nm 4) [4] (tTr) (mAnd (m2 (mVar 4) (mVar 2) (lift2 3 neP)) (mCall (aCons (mVar 4) (aCons (mVar 2) (aNil))) (sized 2 φ__law_divides)))) (aNil)) (gL1 (lift1 1 anyP))))) (mVar 2)) (aNil)) (gL1 (lift1 1 tupP)) [x0, some (.p (.list (Rw cs))), none, none, none] st = .ok (.p (.tuple (Rw (cs.filter (keepB cs))))) st := by
  have hn := h.n
  refine tup_end ((compV_p rfl).trans (comp_data (p := keepB cs) (h := tupI) (src_rowsL rfl) (by omega) fun one h1 => turnF rfl (e_tNt (e_tV (any_end ((compV_p rfl).trans (comp_all (h := fun other => .bool (decide (other ≠ one) && divB other one)) (src_rowsL rfl) (by omega) fun other h2 => turn1 rfl ?_))))) rfl))
  exact e_andB (e_m2 rfl rfl (l2 (k := 3) rfl rfl (neP_T other one))) (e_call (e_cons rfl (e_cons rfl e_nil)) rfl (e_ldivides other one st (h.len other h2)))
theorem e_least {c : Nat} {ks : List (List Int)} (h : Okc c ks) (st : Sto) {x : PyData} (hx : ∀ st, setF (.p x) st = mkSet (Rw ks) st) : φ_least [.p x] st = .ok (.p (.tuple (Rw (leastL ks)))) (st ++ [.set ks]) := by
  refine e_fn (e_nx (e_set (e_mL (e_cons (e_mL (e_cons rfl e_nil) (setF_rows st h.n (hx st))) e_nil) (sortF_set st h.okK)) rfl) (e_ret ?_))
  exact e_keep h.canon _
theorem dKeys_of : ∀ {l : List (List Key × PyData)} {ks : List (List Int)}, l.map (·.1) = ks.map keyI → dKeys l = some ks
  | [], [], _ => rfl
  | [], _ :: _, h => by cases h
  | _ :: _, [], h => by cases h
  | q :: l, k :: ks, h => by
    rw [List.map_cons, List.map_cons] at h
    injection h with h1 h2
    unfold dKeys
    rw [h1, show intsK (keyI k) = some k from intsK_map k, dKeys_of h2]
theorem keyI_inj {a b : List Int} (h : keyI a = keyI b) : a = b := by
  have h1 := intsK_map a
  have h2 := intsK_map b
  unfold keyI at h
  rw [h, h2] at h1
  exact (Option.some.inj h1).symm
theorem putX_keys {α : Type} {acc : List (List Key × α)} {ks : List (List Int)} (h : acc.map (·.1) = ks.map keyI) (k : List Int) (v : α) : (putX acc (keyI k) v).map (·.1) = (if k ∈ ks then ks else ks ++ [k]).map keyI := by
  have ha : (acc.any fun q => decide (q.1 = keyI k)) = decide (k ∈ ks) := by
    have e1 : (acc.any fun q => decide (q.1 = keyI k)) = ((acc.map (·.1)).any fun z => decide (z = keyI k)) := by rw [List.any_map]; rfl
    rw [e1, h, List.any_map]
    by_cases q : k ∈ ks
    · rw [decide_eq_true q, List.any_eq_true]
      exact ⟨k, q, by simp⟩
    · rw [decide_eq_false q, List.any_eq_false]
      intro z hz
      simp only [Function.comp, decide_eq_true_eq]
      intro e
      exact q (keyI_inj e ▸ hz)
  unfold putX
  rw [ha]
  by_cases q : k ∈ ks
  · rw [if_pos (decide_eq_true q), if_pos q, ← h, List.map_map]
    congr 1
    funext z
    simp only [Function.comp]
    split <;> rfl
  · rw [if_neg (by simpa using q), if_neg q, List.map_append, h, List.map_append]
    rfl
/-- the keys of a dict that is made of pairs -/
theorem merge_keys {α : Type} : ∀ (l : List (List Int × α)) {acc : List (List Key × α)} {ks : List (List Int)}, acc.map (·.1) = ks.map keyI →
    ∃ ks' : List (List Int), ((l.map fun q => (keyI q.1, q.2)).foldl (fun a q => putX a q.1 q.2) acc).map (·.1) = ks'.map keyI ∧ (∀ z, z ∈ ks' ↔ z ∈ ks ∨ z ∈ l.map (·.1)) ∧ ks'.length ≤ ks.length + l.length
  | [], acc, ks, h => ⟨ks, h, fun z => by simp, by simp⟩
  | q :: l, acc, ks, h => by
    obtain ⟨ks', h1, h2, h3⟩ := merge_keys l (acc := putX acc (keyI q.1) q.2) (ks := if q.1 ∈ ks then ks else ks ++ [q.1]) (putX_keys h q.1 q.2)
    refine ⟨ks', h1, fun z => ?_, ?_⟩
    · rw [h2 z, List.map_cons, List.mem_cons]
      by_cases m : q.1 ∈ ks
      · rw [if_pos m]
        constructor
        · rintro (a | a)
          · exact .inl a
          · exact .inr (.inr a)
        · rintro (a | a | a)
          · exact .inl a
          · rw [a]; exact .inl m
          · exact .inr a
      · rw [if_neg m, List.mem_append, List.mem_singleton]
        constructor
        · rintro ((a | a) | a)
          · exact .inl a
          · exact .inr (.inl a)
          · exact .inr (.inr a)
        · rintro (a | a | a)
          · exact .inl (.inl a)
          · exact .inl (.inr a)
          · exact .inr a
    · split at h3
      · simp only [List.length_cons]; omega
      · simp at h3 ⊢; omega
theorem prs_map : ∀ {ks : List (List Int)}, (∀ k ∈ ks, k ≠ []) → prs (ks.map fun k => .tuple [tupI k, .bool true]) = some (ks.map fun k => (k, .bool true))
  | [], _ => rfl
  | k :: ks, h => by
    rw [List.map_cons]
    unfold prs
    rw [asTI_tupI, prs_map fun z hz => h z (List.mem_cons_of_mem _ hz)]
    simp only [if_pos (h k List.mem_cons_self), List.map_cons]
theorem Okc.ne {c : Nat} {ks : List (List Int)} (h : Okc c ks) : ∀ k ∈ ks, k ≠ [] := fun k hk e => by
  have h1 := (h.r k hk).1
  have h2 := h.c1
  have h3 : k.length = 0 := by rw [e]; rfl
  omega
theorem canon_eq {a b : List (List Int)} (h : ∀ z, z ∈ a ↔ z ∈ b) : canon a = canon b := asc_uniq (asc_canon a) (asc_canon b) fun z => by rw [mem_canon, mem_canon]; exact h z
theorem leastL_eq {a b : List (List Int)} (h : ∀ z, z ∈ a ↔ z ∈ b) : leastL a = leastL b := by
  unfold leastL
  rw [canon_eq h]
/-- the law's own least ones, from the pairs on -/
theorem e_lleast0 {c : Nat} {ks : List (List Int)} (h : Okc c ks) (st : Sto) {x : D} (hc : mCompV false 0 (.nm 3) [3] (tTr) (mL (aCons (mVar 3) (aCons (mC (.bool true)) (aNil))) gTupD) [some x, none, none, none, none] st = .ok (.p (.list (ks.map fun k => .tuple [tupI k, .bool true]))) st) :
    ∃ e, φ__law_least [x] st = .ok (.p (.tuple (Rw (leastL ks)))) (st ++ e) := by
  obtain ⟨ks', h1, h2, h3⟩ := merge_keys (ks.map fun k => (k, PyData.bool true)) (acc := []) (ks := []) rfl
  have hm : ∀ z, z ∈ ks' ↔ z ∈ ks := fun z => by rw [h2 z, List.map_map]; simp
  have ok' : Okc c ks' := ⟨h.c1, h.c3, by have := h.n; simp at h3; omega, fun k hk => h.r k ((hm k).mp hk)⟩
  refine ⟨[.dT (mergeT putX ((ks.map fun k => (k, PyData.bool true)).map fun q => (keyI q.1, q.2)))], ?_⟩
  have hd : lft (gL1 dictF [.p (.list (ks.map fun k => .tuple [tupI k, .bool true]))]) st = .ok (.loc st.length) (st ++ [.dT (mergeT putX ((ks.map fun k => (k, PyData.bool true)).map fun q => (keyI q.1, q.2)))]) := by
    show lft (dictF (.p (.list (ks.map fun k => .tuple [tupI k, .bool true])))) st = _
    unfold lft dictF
    simp only [prs_map h.ne]
  rw [leastL_eq (fun z => (hm z).symm)]
  refine e_fn (e_nx (e_set (e_mL (e_cons (e_mL (e_cons hc e_nil) hd) e_nil) (sortF_dict st (dKeys_of h1) ok'.okK)) rfl) (e_ret ?_))
  exact e_keepL ok'.canon _
theorem pair_d (k : List Int) {env : Env'} {st : Sto} (h : env[3]? = some (some (.p (tupI k)))) : mL (aCons (mVar 3) (aCons (mC (.bool true)) (aNil))) gTupD env st = .ok (.p (.tuple [tupI k, .bool true])) st := by
  have hv : mVar 3 env st = .ok (.p (tupI k)) st := by unfold mVar; rw [h]; rfl
  exact e_mL (e_cons hv (e_cons (d := .p (.bool true)) (st1 := st) rfl e_nil)) rfl
theorem e_lleast {c : Nat} {ks : List (List Int)} (h : Okc c ks) (st : Sto) : ∃ e, φ__law_least [.p (.tuple (Rw ks))] st = .ok (.p (.tuple (Rw (leastL ks)))) (st ++ e) := by
  have hn := h.n
  exact e_lleast0 h st ((compV_p rfl).trans (comp_all (src_rows rfl) (by omega) fun k hk => turn1 rfl (pair_d k rfl)))
theorem e_lleastD {c : Nat} {ks : List (List Int)} (h : Okc c ks) (st : Sto) {n : Nat} {kvs : List (List Key × PyData)} (hk : kvs.map (·.1) = ks.map keyI) (hs : st[n]? = some (.dT kvs)) : ∃ e, φ__law_least [.loc n] st = .ok (.p (.tuple (Rw (leastL ks)))) (st ++ e) := by
  have hn := h.n
  refine e_lleast0 h st ?_
  have hr : compR 1000000 (pureE [some (.loc n), none, none, none, none]) (.nm 3) [3] (bodyC tTr (mL (aCons (mVar 3) (aCons (mC (.bool true)) (aNil))) gTupD)) (.fix (ks.map fun k => .p (tupI k))) [] = .ok (ks.map fun k => .p (.tuple [tupI k, .bool true])) [] := by
    have := comp_all (mi := fun _ => Fw.ret (.fix (ks.map fun k => .p (tupI k)))) (g := .nm 3) (own := [3]) (m := mL (aCons (mVar 3) (aCons (mC (.bool true)) (aNil))) gTupD) (env := pureE [some (.loc n), none, none, none, none]) (st := []) (st0 := []) (e := tupI) (h := fun k => .tuple [tupI k, .bool true]) (xs := ks) rfl (by omega) fun k hk => turn1 rfl (pair_d k rfl)
    unfold compR
    show (if (ks.map fun k => D.p (tupI k)).length ≤ 1000000 then compS (.fix (ks.map fun k => .p (tupI k))) _ (ks.map fun k => D.p (tupI k)).length 0 [] else .bad) = _
    rw [if_pos (by rw [List.length_map]; omega), compS_fix _ _ (by omega)]
    show compL _ (ks.map fun k => D.p (tupI k)) [] = _
    clear this hk hs h hn
    induction ks with
    | nil => rfl
    | cons k ks ih =>
      rw [List.map_cons]
      unfold compL
      rw [bnd_ok (turn1 (g := .nm 3) (env := wipeE (pureE [some (.loc n), none, none, none, none]) [3]) (env1 := [none, none, none, some (.p (tupI k)), none]) rfl (pair_d k rfl)), bnd_ok ih]
      rfl
  show mCompV false 0 (.nm 3) [3] _ _ [some (.loc n), none, none, none, none] st = _
  unfold mCompV
  show (match st[n]? with
    | some (.dT kvs) => _
    | _ => _) = _
  rw [hs]
  simp only [dKeys_of hk, hr]
  rw [pures_mapp]
end Q30

set_option maxRecDepth 100000
set_option maxHeartbeats 4000000
namespace Q30
open PySem PySem.Spec Fw
open L2 (Key)
/-! ## products of two lots -/
def prodL (f : List Int → List Int → List Int) (one other : List (List Int)) : List (List Int) := one.flatMap fun a => other.map (f a)
theorem mem_prodL {f : List Int → List Int → List Int} {one other : List (List Int)} {z : List Int} : z ∈ prodL f one other ↔ ∃ a ∈ one, ∃ b ∈ other, f a b = z := by
  unfold prodL
  simp only [List.mem_flatMap, List.mem_map]
theorem len_prodL (f : List Int → List Int → List Int) (one other : List (List Int)) : (prodL f one other).length = one.length * other.length := by
  unfold prodL
  induction one with
  | nil => simp
  | cons a one ih => rw [List.flatMap_cons, List.length_append, ih, List.length_map, List.length_cons, Nat.add_mul, Nat.one_mul, Nat.add_comm]
theorem e_comp2 {N : List Str} {one other : List (List Int)} {f : List Int → List Int → List Int} {m : Env' → M D} (st : Sto) (h1 : one.length ≤ 1000) (h2 : other.length ≤ 1000)
    (hm : ∀ a ∈ one, ∀ b ∈ other, m [some (.p (.tuple (Rw one))), some (.p (.tuple (Rw other))), some (.p (tupI a)), some (.p (tupI b))] st = .ok (.p (tupI (f a b))) st) :
    mComp2 false (iSeq (mVar 0)) (.nm 2) [2, 3] (tTr) (iSeq (mVar 1)) (.nm 3) [3] (tTr) m [some (.p (.tuple (Rw one))), some (.p (.tuple (Rw other))), none, none] st = .ok (.p (.list (Rw (prodL f one other)))) st := by
  unfold mComp2
  rw [bnd_ok (src_rows (st := st) (ks := one) rfl)]
  have inner : ∀ a ∈ one, turnG (.nm 2) (wipeE [some (.p (.tuple (Rw one))), some (.p (.tuple (Rw other))), none, none] [2, 3]) (bodyI tTr (iSeq (mVar 1)) (.nm 3) [3] (bodyC tTr m)) (.p (tupI a)) st = .ok (other.map fun b => .p (tupI (f a b))) st := fun a ha => by
    show noexc (bodyI tTr (iSeq (mVar 1)) (.nm 3) [3] (bodyC tTr m) [some (.p (.tuple (Rw one))), some (.p (.tuple (Rw other))), some (.p (tupI a)), none]) st = _
    have e1 : bodyI tTr (iSeq (mVar 1)) (.nm 3) [3] (bodyC tTr m) [some (.p (.tuple (Rw one))), some (.p (.tuple (Rw other))), some (.p (tupI a)), none] st = .ok (other.map fun b => .p (tupI (f a b))) st := by
      unfold bodyI
      rw [bnd_ok (show tTr _ st = .ok true st from rfl), if_pos rfl, bnd_ok (src_rows (st := st) (ks := other) rfl)]
      unfold compR
      show (if (other.map fun k => D.p (tupI k)).length ≤ 1000 then compS (.fix (other.map fun k => .p (tupI k))) _ (other.map fun k => D.p (tupI k)).length 0 st else .bad) = _
      rw [if_pos (by rw [List.length_map]; exact h2), compS_fix _ _ (by omega)]
      show compL _ (other.map fun k => D.p (tupI k)) st = _
      have hm' := hm a ha
      clear hm
      generalize hoo : Rw other = oo at hm' ⊢
      clear hoo h2
      induction other with
      | nil => rfl
      | cons b other ih =>
        rw [List.map_cons]
        unfold compL
        rw [bnd_ok (turn1 (g := .nm 3) (env := wipeE [some (.p (.tuple (Rw one))), some (.p (.tuple oo)), some (.p (tupI a)), none] [3]) rfl (hm' b List.mem_cons_self)), bnd_ok (ih fun z hz => hm' z (List.mem_cons_of_mem _ hz))]
        rfl
    unfold noexc
    rw [e1]
  have hr : compR 1000 [some (.p (.tuple (Rw one))), some (.p (.tuple (Rw other))), none, none] (.nm 2) [2, 3] (bodyI tTr (iSeq (mVar 1)) (.nm 3) [3] (bodyC tTr m)) (.fix (one.map fun k => .p (tupI k))) st = .ok ((prodL f one other).map fun z => .p (tupI z)) st := by
    unfold compR
    show (if (one.map fun k => D.p (tupI k)).length ≤ 1000 then compS (.fix (one.map fun k => .p (tupI k))) _ (one.map fun k => D.p (tupI k)).length 0 st else .bad) = _
    rw [if_pos (by rw [List.length_map]; exact h1), compS_fix _ _ (by omega)]
    show compL _ (one.map fun k => D.p (tupI k)) st = _
    clear hm h1
    generalize hoo : Rw one = oo at inner ⊢
    clear hoo
    induction one with
    | nil => rfl
    | cons a one ih =>
      rw [List.map_cons]
      unfold compL
      rw [bnd_ok (inner a List.mem_cons_self), bnd_ok (ih fun z hz => inner z (List.mem_cons_of_mem _ hz))]
      show Fw.R.ok _ st = Fw.R.ok _ st
      congr 1
      show _ = ((other.map (f a)) ++ prodL f one other).map _
      rw [List.map_append, List.map_map]
      rfl
  rw [bnd_ok hr]
  show (match pures ((prodL f one other).map fun z => D.p (tupI z)) with
    | some xs => Fw.R.ok (D.p (.list xs)) st
    | none => .bad) = _
  rw [pures_mapp]
theorem e_shared {c : Nat} {one other : List (List Int)} (h1 : Okc c one) (h2 : Okc c other) (h : Okc c (prodL (fun a b => a.zipWith max b) one other)) (st : Sto) : φ_shared [.p (.tuple (Rw one)), .p (.tuple (Rw other))] st = .ok (.p (.tuple (Rw (leastL (prodL (fun a b => a.zipWith max b) one other))))) (st ++ [.set (prodL (fun a b => a.zipWith max b) one other)]) := by
  have n1 := h1.n
  have n2 := h2.n
  refine e_fn (e_ret (e_call (e_cons (e_comp2 (N := N_shared) st (by omega) (by omega) fun a ha b hb => e_call (e_cons rfl (e_cons rfl e_nil)) rfl (e_lcm a b st (h1.len a ha))) e_nil) rfl (e_least h st fun _ => rfl)))
theorem e_multiplied {c : Nat} {one other : List (List Int)} (h1 : Okc c one) (h2 : Okc c other) (h : Okc c (prodL (fun a b => a.zipWith (· + ·) b) one other)) (st : Sto) : φ_multiplied [.p (.tuple (Rw one)), .p (.tuple (Rw other))] st = .ok (.p (.tuple (Rw (leastL (prodL (fun a b => a.zipWith (· + ·) b) one other))))) (st ++ [.set (prodL (fun a b => a.zipWith (· + ·) b) one other)]) := by
  have n1 := h1.n
  have n2 := h2.n
  refine e_fn (e_ret (e_call (e_cons (e_comp2 (N := N_multiplied) st (by omega) (by omega) fun a ha b hb => e_call (e_cons rfl (e_cons rfl e_nil)) rfl (e_times a b st (h1.len a ha))) e_nil) rfl (e_least h st fun _ => rfl)))
/-! ## over, radical -/
def subM (a s : List Int) : List Int := a.zipWith (fun x y => max (x - y) 0) s
def overL (ks : List (List Int)) (s : List Int) : List (List Int) := ks.map fun a => subM a s
def radL (ks : List (List Int)) : List (List Int) := ks.map fun a => a.map fun x => min x 1
theorem min2_i (a b : Int) : min2P (.int a) (.int b) = some (.int (min a b)) := by
  show some (PyData.int _) = _
  congr 2
  omega
theorem e_over {c : Nat} {ks : List (List Int)} {s : List Int} (h0 : Okc c ks) (h : Okc c (overL ks s)) (st : Sto) : φ_over [.p (.tuple (Rw ks)), .p (tupI s)] st = .ok (.p (.tuple (Rw (leastL (overL ks s))))) (st ++ [.set (overL ks s)]) := by
  have n0 := h0.n
  have hc : mCompV false 0 (.nm 2) [2] (tTr) (mL (aCons (mComp false (iArgs (aCons (mVar 2) (aCons (mVar 1) (aNil))) zip2) (.tp (.cons (.nm 3) (.cons (.nm 4) .nil))) [3, 4] (tTr) (mL (aCons (m2 (mVar 3) (mVar 4) (lift2 1 subP)) (aCons (mC (.int 0)) (aNil))) (gL2 (lift2 1 max2P)))) (aNil)) (gL1 (lift1 1 tupP))) [some (.p (.tuple (Rw ks))), some (.p (tupI s)), none, none, none] st = .ok (.p (.list (ks.map fun a => tupI (subM a s)))) st := by
    refine (compV_p rfl).trans (comp_all (src_rows rfl) (by omega) fun a ha => turn1 rfl ?_)
    have := comp_all (mi := iArgs (aCons (mVar 2) (aCons (mVar 1) aNil)) zip2) (own := [3, 4]) (g := .tp (.cons (.nm 3) (.cons (.nm 4) .nil))) (m := mL (aCons (m2 (mVar 3) (mVar 4) (lift2 1 subP)) (aCons (mC (.int 0)) (aNil))) (gL2 (lift2 1 max2P))) (env := [some (.p (.tuple (Rw ks))), some (.p (tupI s)), some (.p (tupI a)), none, none]) (h := fun q : Int × Int => .int (max (q.1 - q.2) 0)) (src_zip (st := st) rfl rfl) (zlen (h0.len a ha)) fun q _ => turn1 rfl (e_mL (e_cons (e_m2 rfl rfl (l2 (k := 1) rfl rfl rfl)) (e_cons (d := .p (.int 0)) (st1 := st) rfl e_nil)) (l2 (k := 1) rfl rfl (max2_i _ _)))
    rw [zip_tup (fun x y => max (x - y) 0)] at this
    exact tup_end this
  have e : (ks.map fun a => tupI (subM a s)) = Rw (overL ks s) := by
    show _ = (ks.map fun a => subM a s).map tupI
    rw [List.map_map]
    rfl
  rw [e] at hc
  exact e_fn (e_ret (e_call (e_cons hc e_nil) rfl (e_least h st fun _ => rfl)))
theorem e_radical {c : Nat} {ks : List (List Int)} (h0 : Okc c ks) (h : Okc c (radL ks)) (st : Sto) : φ_radical [.p (.tuple (Rw ks))] st = .ok (.p (.tuple (Rw (leastL (radL ks))))) (st ++ [.set (radL ks)]) := by
  have n0 := h0.n
  have hc : mCompV false 0 (.nm 1) [1] (tTr) (mL (aCons (mCompV false 1 (.nm 2) [2] (tTr) (mL (aCons (mVar 2) (aCons (mC (.int 1)) (aNil))) (gL2 (lift2 1 min2P)))) (aNil)) (gL1 (lift1 1 tupP))) [some (.p (.tuple (Rw ks))), none, none] st = .ok (.p (.list (ks.map fun a => tupI (a.map fun x => min x 1)))) st := by
    refine (compV_p rfl).trans (comp_all (src_rows rfl) (by omega) fun a ha => turn1 rfl ?_)
    have hla := h0.len a ha
    have := comp_all (mi := iSeq (mVar 1)) (own := [2]) (g := .nm 2) (m := mL (aCons (mVar 2) (aCons (mC (.int 1)) (aNil))) (gL2 (lift2 1 min2P))) (env := [some (.p (.tuple (Rw ks))), some (.p (tupI a)), none]) (st0 := st) (st := st) (xs := a) (e := .int) (h := fun x => .int (min x 1)) (by rw [iSeq_tup (xs := a.map .int) rfl, List.map_map]; rfl) (by omega) fun q _ => turn1 rfl (e_mL (e_cons rfl (e_cons (d := .p (.int 1)) (st1 := st) rfl e_nil)) (l2 (k := 1) rfl rfl (min2_i _ _)))
    have e2 : (a.map fun x => PyData.int (min x 1)) = (a.map fun x => min x 1).map .int := by rw [List.map_map]; rfl
    rw [e2] at this
    exact tup_end ((compV_p rfl).trans this)
  have e : (ks.map fun a => tupI (a.map fun x => min x 1)) = Rw (radL ks) := by
    show _ = (ks.map fun a => a.map fun x => min x 1).map tupI
    rw [List.map_map]
    rfl
  rw [e] at hc
  exact e_fn (e_ret (e_call (e_cons hc e_nil) rfl (e_least h st fun _ => rfl)))
/-! ## powers -/
theorem alike_ints : ∀ a : List Int, alikeB (a.map .int) = true := fun a => by
  unfold alikeB
  rw [List.all_eq_true]
  intro x hx
  obtain ⟨i, _, rfl⟩ := List.mem_map.mp hx
  rw [Bool.and_eq_true, List.all_eq_true]
  refine ⟨rfl, fun y hy => ?_⟩
  obtain ⟨j, _, rfl⟩ := List.mem_map.mp hy
  rfl
theorem best_ints (x : Int) (a : List Int) : best1 true (tupI (x :: a)) = some (.int (a.foldl max x)) := by
  have h1 := alike_ints (x :: a)
  have h2 := depth_ints (x :: a)
  show (if alikeB (PyData.int x :: a.map .int) = true ∧ PyData.depthAll (PyData.int x :: a.map .int) ≤ 60 then some (if true = true then PySem.W.maxD (.int x) (a.map .int) else PySem.W.minD (.int x) (a.map .int)) else none) = _
  rw [if_pos ⟨h1, Nat.le_trans h2 (by decide)⟩, if_pos rfl, PySem.W.maxD_ints]
theorem foldl_max_lt {b : Int} : ∀ {a : List Int} {x : Int}, (a.foldl max x < b) ↔ x < b ∧ ∀ i ∈ a, i < b
  | [], x => by simp
  | y :: a, x => by
    rw [List.foldl_cons, foldl_max_lt]
    constructor
    · rintro ⟨h1, h2⟩
      refine ⟨by omega, fun i hi => ?_⟩
      rcases List.mem_cons.mp hi with e | hi
      · omega
      · exact h2 i hi
    · rintro ⟨h1, h2⟩
      have := h2 y List.mem_cons_self
      exact ⟨by omega, fun i hi => h2 i (List.mem_cons_of_mem _ hi)⟩
def sqB (k : List Int) : Bool := k.all fun i => decide (i < 2)
theorem best_lt {k : List Int} (hk : k ≠ []) : ∃ m, best1 true (tupI k) = some (.int m) ∧ decide (m < 2) = sqB k := by
  cases k with
  | nil => exact absurd rfl hk
  | cons x a =>
    refine ⟨_, best_ints x a, ?_⟩
    unfold sqB
    by_cases h : a.foldl max x < 2
    · rw [decide_eq_true h, eq_comm, List.all_eq_true]
      obtain ⟨h1, h2⟩ := foldl_max_lt.mp h
      intro i hi
      rcases List.mem_cons.mp hi with e | hi
      · subst e; exact decide_eq_true h1
      · exact decide_eq_true (h2 i hi)
    · rw [decide_eq_false h, eq_comm, Bool.eq_false_iff]
      intro q
      rw [List.all_eq_true] at q
      exact h (foldl_max_lt.mpr ⟨of_decide_eq_true (q x List.mem_cons_self), fun i hi => of_decide_eq_true (q i (List.mem_cons_of_mem _ hi))⟩)
theorem sqB_snoc (k : List Int) : sqB (k ++ [0]) = sqB k := by
  unfold sqB
  rw [List.all_append]
  simp
theorem lt_best {k : List Int} (hk : k ≠ []) {m : Env' → M D} {env : Env'} {st : Sto} (hm : m env st = .ok (.p (tupI k)) st) : m2 (mL (aCons m (aNil)) (gL1 (lift1 1 (best1 true)))) (mC (.int 2)) (lift2 3 ltP) env st = .ok (.p (.bool (sqB k))) st := by
  obtain ⟨b, h1, h2⟩ := best_lt hk
  rw [← h2]
  exact e_m2 (e_mL (e_cons hm e_nil) (l1 (k := 1) rfl h1)) (e := .p (.int 2)) (st2 := st) rfl (l2 (k := 3) rfl rfl (ltP_i b 2))
theorem e_sqfree {c : Nat} {ks : List (List Int)} (h : Okc c ks) (st : Sto) : φ_is_square_free [.p (.tuple (Rw ks))] st = .ok (.p (.bool ((leastL ks).all sqB))) (st ++ [.set ks]) := by
  have hn := h.least.n
  have src : iSeq (mCall (aCons (mVar 0) (aNil)) (sized 1 φ_least)) [some (.p (.tuple (Rw ks))), none] st = .ok (.fix ((leastL ks).map fun k => .p (tupI k))) (st ++ [.set ks]) := by
    have e1 : mCall (aCons (mVar 0) (aNil)) (sized 1 φ_least) [some (.p (.tuple (Rw ks))), none] st = .ok (.p (.tuple (Rw (leastL ks)))) (st ++ [.set ks]) := e_call (e_cons rfl e_nil) rfl (e_least h st fun _ => rfl)
    unfold iSeq
    rw [bnd_ok e1]
    show Fw.R.ok (Src.fix ((Rw (leastL ks)).map D.p)) _ = _
    rw [List.map_map]
    rfl
  refine e_fn (e_ret (all_end (comp_all (h := fun k => .bool (sqB k)) src (by omega) fun k hk => turn1 rfl ?_)))
  have hk0 : k ++ [0] ≠ [] := by simp
  have e2 : m2 (mVar 1) (mL (aCons (mC (.int 0)) (aNil)) gTupD) (lift2 1 addP) [some (.p (.tuple (Rw ks))), some (.p (tupI k))] (st ++ [.set ks]) = .ok (.p (tupI (k ++ [0]))) (st ++ [.set ks]) := by
    refine e_m2 rfl (e := .p (tupI [0])) (st2 := st ++ [.set ks]) (e_mL (e_cons (d := .p (.int 0)) (st1 := st ++ [.set ks]) rfl e_nil) rfl) (l2 (k := 1) rfl rfl ?_)
    have hl := h.least.len k hk
    show (if (k.map PyData.int).length + ([0].map PyData.int).length ≤ 1000000 then some (PyData.tuple (k.map .int ++ [0].map .int)) else none) = _
    rw [if_pos (by simp; omega), ← List.map_append]
    rfl
  rw [← sqB_snoc]
  exact lt_best hk0 e2
theorem e_lsq {c : Nat} {ks : List (List Int)} (h : Okc c ks) (st : Sto) {env : Env'} {i j : Nat} (hi : env[i]? = some (some (.p (.tuple (Rw ks))))) (hj : j < env.length) (e8 : ∀ k, ∃ env1, gSet (.nm j) (.p (tupI k)) (wipeE env [j]) = some env1 ∧ env1[j]? = some (some (.p (tupI k)))) :
    ∃ e, mL (aCons (mComp false (iSeq (mCall (aCons (mVar i) (aNil)) (sized 1 φ__law_least))) (.nm j) [j] (tTr) (m2 (mL (aCons (mVar j) (aNil)) (gL1 (lift1 1 (best1 true)))) (mC (.int 2)) (lift2 3 ltP))) (aNil)) (gL1 (lift1 1 allP)) env st = .ok (.p (.bool ((leastL ks).all sqB))) (st ++ e) := by
  have hn := h.least.n
  obtain ⟨e, he⟩ := e_lleast h st
  refine ⟨e, all_end (comp_all (h := fun k => .bool (sqB k)) (xs := leastL ks) (e := tupI) (st := st ++ e) ?_ (by omega) fun k hk => ?_)⟩
  · have hv : mVar i env st = .ok (.p (.tuple (Rw ks))) st := by unfold mVar; rw [hi]; rfl
    have e1 : mCall (aCons (mVar i) (aNil)) (sized 1 φ__law_least) env st = .ok (.p (.tuple (Rw (leastL ks)))) (st ++ e) := e_call (e_cons hv e_nil) rfl he
    unfold iSeq
    rw [bnd_ok e1]
    show Fw.R.ok (Src.fix ((Rw (leastL ks)).map D.p)) _ = _
    rw [List.map_map]
    rfl
  · obtain ⟨env1, g1, g2⟩ := e8 k
    refine turn1 g1 (lt_best (h.least.ne k hk) ?_)
    unfold mVar
    rw [g2]
    rfl
end Q30

set_option maxRecDepth 100000
set_option maxHeartbeats 4000000
namespace Q30
open PySem PySem.Spec Fw
open L2 (Key)
/-! ## checks -/
theorem isi {c : Cl} {x : PyData} {b : Bool} {m : Env' → M D} {env : Env'} {st : Sto} (hm : m env st = .ok (.p x) st) (h : isC c x = some b) : m1 m (lift1 3 (isiP c)) env st = .ok (.p (.bool b)) st := by
  refine e_m1 hm (l1 (k := 3) rfl ?_)
  unfold isiP
  rw [h]
  rfl
theorem e_isint (x : PyData) {b c : Bool} (st : Sto) (h1 : isC .int x = some b) (h2 : isC .bool x = some c) : φ_is_integer [.p x] st = .ok (.p (.bool (b && !c))) st := by
  refine e_fn (e_ret ?_)
  refine e_andB (isi rfl h1) ?_
  unfold mNot
  rw [bnd_ok (isi rfl h2)]
  rfl
theorem e_isint_i (i : Int) (st : Sto) : φ_is_integer [.p (.int i)] st = .ok (.p (.bool true)) st := e_isint (.int i) st rfl rfl
theorem e_isint_b (i : Bool) (st : Sto) : φ_is_integer [.p (.bool i)] st = .ok (.p (.bool false)) st := e_isint (.bool i) st rfl rfl
theorem e_lenT {m : Env' → M D} {env : Env'} {st : Sto} {xs : List PyData} (hm : m env st = .ok (.p (.tuple xs)) st) (hl : xs.length ≤ 1000000) : mL (aCons m aNil) (gL1 lenG) env st = .ok (.p (.int xs.length)) st := by
  refine e_mL (e_cons hm e_nil) ?_
  show lft (lenG (.p (.tuple xs))) st = _
  unfold lft lenG
  first | rfl | simp only [if_pos hl]
theorem e_exc {a b : MS} {env e : Env'} {st st1 : Sto} {c : Nat} (h : a env st = .exc c e st1) : sSeq a b env st = .exc c e st1 := by
  unfold sSeq
  rw [h]
theorem e_fnX {N : List Str} {m : MS} {ds : List D} {st st1 : Sto} {c : Nat} {e : Env'} (h : m (env0 N ds) st = .exc c e st1) : fnDen N m ds st = .exc c st1 := by
  unfold fnDen
  rw [h]
/-- is_monomial -/
def nnB : PyData → Bool
  | .int i => decide (0 ≤ i)
  | _ => false
def monB (c : Int) : PyData → Bool
  | .tuple xs => decide ((xs.length : Int) = c) && xs.all nnB
  | _ => false
theorem monB_t (c : Int) (xs : List PyData) : monB c (.tuple xs) = (decide ((xs.length : Int) = c) && xs.all nnB) := rfl
/-- a datum that is an int or a bool -/
def ib : PyData → Bool
  | .int _ => true
  | .bool _ => true
  | _ => false
theorem e_ismon_no (x : PyData) (c : Int) (st : Sto) (h : isC .tup x = some false) : φ_is_monomial [.p x, .p (.int c)] st = .ok (.p (.bool false)) st := by
  refine e_fn (e_seqr (d := .p (.bool false)) (e_if (e_orT (e_tNt (e_tV (isi rfl h)))) ?_))
  rw [if_pos rfl]
  exact e_ret rfl
theorem e_ismon (xs : List PyData) (c : Int) (st : Sto) (hx : xs.all ib = true) (hl : xs.length ≤ 1000) : φ_is_monomial [.p (.tuple xs), .p (.int c)] st = .ok (.p (.bool (monB c (.tuple xs)))) st := by
  have hcond : tOrr (tNt (tV (m1 (mVar 0) (lift1 3 (isiP .tup))))) (tB (m2 (mL (aCons (mVar 0) (aNil)) (gL1 lenG)) (mVar 1) (lift2 3 neP))) [some (.p (.tuple xs)), some (.p (.int c)), none] st = .ok (decide ((xs.length : Int) ≠ c)) st := by
    refine e_orF (e_tNt (e_tV (b := true) (isi rfl rfl))) (e_tB (e_m2 (e_lenT rfl (by omega)) rfl (l2 (k := 3) rfl rfl ?_)))
    rw [neP_i]
    congr 2
    by_cases q : (xs.length : Int) = c <;> simp [q]
  by_cases hq : (xs.length : Int) = c
  · rw [monB_t, decide_eq_true hq, Bool.true_and]
    have hf : decide ((xs.length : Int) ≠ c) = false := by simp [hq]
    rw [hf] at hcond
    refine e_fn (e_nx (env1 := [some (.p (.tuple xs)), some (.p (.int c)), none]) (st1 := st) (e_if hcond ?_) (e_ret (all_end ((compV_p rfl).trans (comp_all (h := fun x => .bool (nnB x)) (e := id) (iSeq_tup (xs := xs) rfl) (by omega) fun x hx' => ?_)))))
    · rw [if_neg Bool.false_ne_true]; rfl
    · have hb := List.all_eq_true.mp hx x hx'
      cases x with
      | int i => exact turn1 rfl (e_andB (e_call (e_cons rfl e_nil) rfl (e_isint_i i st)) (e_m2 rfl (e := .p (.int 0)) (st2 := st) rfl (l2 (k := 3) rfl rfl (geP_i i 0))))
      | bool b => exact turn1 rfl (e_andF (e_call (e_cons rfl e_nil) rfl (e_isint_b b st)))
      | _ => cases hb
  · rw [monB_t, decide_eq_false hq, Bool.false_and]
    have hf : decide ((xs.length : Int) ≠ c) = true := by simp [hq]
    rw [hf] at hcond
    refine e_fn (e_seqr (d := .p (.bool false)) (e_if hcond ?_))
    rw [if_pos rfl]
    exact e_ret rfl
/-- a value that check_monomials looks through -/
def vB : PyData → Bool
  | .tuple xs => xs.all ib && decide (xs.length ≤ 1000)
  | .none => true
  | _ => false
theorem e_mon1 (x : PyData) (c : Int) (st : Sto) (h : vB x = true) : φ_is_monomial [.p x, .p (.int c)] st = .ok (.p (.bool (monB c x))) st := by
  cases x with
  | tuple xs =>
    have h' : (xs.all ib && decide (xs.length ≤ 1000)) = true := h
    rw [Bool.and_eq_true] at h'
    exact e_ismon xs c st h'.1 (of_decide_eq_true h'.2)
  | none => exact e_ismon_no .none c st rfl
  | _ => cases h
theorem ck_no (x : PyData) (c : Int) (st : Sto) (h : isC .tup x = some false) : φ_check_monomials [.p x, .p (.int c)] st = .exc 0 st := by
  exact e_fnX (e := [some (.p x), some (.p (.int c)), none]) (e_exc (e_if (e_orT (e_tNt (e_tV (isi rfl h)))) (by rw [if_pos rfl]; rfl)))
theorem ck_tup (xs : List PyData) (c : Int) (st : Sto) (h : xs.all vB = true) (hl : xs.length ≤ 1000) : φ_check_monomials [.p (.tuple xs), .p (.int c)] st = if xs.length ≤ 40 ∧ xs.all (monB c) = true then .ok (.p .none) st else .exc 0 st := by
  have e1 : tOrr (tNt (tV (m1 (mVar 0) (lift1 3 (isiP .tup))))) (tB (m2 (mL (aCons (mVar 0) (aNil)) (gL1 lenG)) (mC (.int 40)) (lift2 3 gtP))) [some (.p (.tuple xs)), some (.p (.int c)), none] st = .ok (decide (40 < (xs.length : Int))) st :=
    e_orF (e_tNt (e_tV (b := true) (isi rfl rfl))) (e_tB (e_m2 (e_lenT rfl (by omega)) (e := .p (.int 40)) (st2 := st) rfl (l2 (k := 3) rfl rfl (gtP_i _ 40))))
  have e2 : tNt (tV (mL (aCons (mCompV false 0 (.nm 2) [2] (tTr) (mCall (aCons (mVar 2) (aCons (mVar 1) (aNil))) (sized 2 φ_is_monomial))) (aNil)) (gL1 (lift1 1 allP)))) [some (.p (.tuple xs)), some (.p (.int c)), none] st = .ok (!(xs.all (monB c))) st :=
    e_tNt (e_tV (all_end ((compV_p rfl).trans (comp_all (h := fun x => .bool (monB c x)) (e := id) (iSeq_tup (xs := xs) rfl) (by omega) fun x hx => turn1 rfl (e_call (e_cons rfl (e_cons rfl e_nil)) rfl (e_mon1 x c st (List.all_eq_true.mp h x hx)))))))
  by_cases hq : xs.length ≤ 40
  · have hd : decide (40 < (xs.length : Int)) = false := decide_eq_false (by omega)
    rw [hd] at e1
    by_cases hb : xs.all (monB c) = true
    · rw [if_pos ⟨hq, hb⟩]
      rw [hb] at e2
      exact e_fnN (e := [some (.p (.tuple xs)), some (.p (.int c)), none]) (e_nx (env1 := [some (.p (.tuple xs)), some (.p (.int c)), none]) (st1 := st) (e_if e1 (by rw [if_neg Bool.false_ne_true]; rfl)) (e_nx (env1 := [some (.p (.tuple xs)), some (.p (.int c)), none]) (st1 := st) (e_if e2 (by rw [if_neg (by decide)]; rfl)) rfl))
    · rw [if_neg (fun z => hb z.2)]
      have hb' : xs.all (monB c) = false := by simpa using hb
      rw [hb'] at e2
      exact e_fnX (e := [some (.p (.tuple xs)), some (.p (.int c)), none]) (e_nx (env1 := [some (.p (.tuple xs)), some (.p (.int c)), none]) (st1 := st) (e_if e1 (by rw [if_neg Bool.false_ne_true]; rfl)) (e_exc (e_if e2 (by rw [if_pos (by decide)]; rfl))))
  · rw [if_neg (fun z => hq z.1)]
    have hd : decide (40 < (xs.length : Int)) = true := decide_eq_true (by omega)
    rw [hd] at e1
    exact e_fnX (e := [some (.p (.tuple xs)), some (.p (.int c)), none]) (e_exc (e_if e1 (by rw [if_pos rfl]; rfl)))
/-- told -/
theorem told_exc (x : PyData) (c : Int) (st : Sto) (h : φ_check_monomials [.p x, .p (.int c)] st = .exc 0 st) : φ__law_told [.p x, .p (.int c)] st = .ok (.p (.str ("refused" : Str))) st := by
  have e1 : mCall (aCons (mVar 0) (aCons (mVar 1) (aNil))) (sized 2 φ_check_monomials) [some (.p x), some (.p (.int c))] st = .exc 0 st := e_call (e_cons rfl (e_cons rfl e_nil)) rfl h
  refine e_fn ?_
  show sSeq (sTry _ _ _) sNil [some (.p x), some (.p (.int c))] st = _
  refine e_seqr ?_
  have e2 : sSeq (sRet (mCall (aCons (mVar 0) (aCons (mVar 1) (aNil))) (sized 2 φ_check_monomials))) sNil [some (.p x), some (.p (.int c))] st = .exc 0 [some (.p x), some (.p (.int c))] st := by
    unfold sSeq sRet sbnd
    rw [e1]
  unfold sTry
  rw [e2]
  rfl
theorem told_ok (x : PyData) (c : Int) (st : Sto) (h : φ_check_monomials [.p x, .p (.int c)] st = .ok (.p .none) st) : φ__law_told [.p x, .p (.int c)] st = .ok (.p .none) st := by
  refine e_fn (e_seqr ?_)
  have e2 : sSeq (sRet (mCall (aCons (mVar 0) (aCons (mVar 1) (aNil))) (sized 2 φ_check_monomials))) sNil [some (.p x), some (.p (.int c))] st = .ret (.p .none) st := e_ret (e_call (e_cons rfl (e_cons rfl e_nil)) rfl h)
  unfold sTry
  rw [show env0 N__law_told [D.p x, D.p (.int c)] = [some (.p x), some (.p (.int c))] from rfl, e2]
theorem e_unit (c : Int) (st : Sto) (h : 0 ≤ c ∧ c ≤ 100) : φ_unit [.p (.int c)] st = .ok (.p (tupI (List.replicate c.toNat 0))) st := by
  refine e_fn (e_ret (e_m2 (d := .p (.tuple [.int 0])) (st1 := st) rfl rfl (l2 (k := 1) rfl rfl ?_)))
  show (if 0 ≤ c ∧ c ≤ 1000 ∧ [PyData.int 0].length ≤ 1000 ∧ [PyData.int 0] ≠ [] then some (PyData.tuple (List.replicate c.toNat [PyData.int 0]).flatten) else none) = _
  rw [if_pos ⟨h.1, by omega, by decide, by simp⟩]
  congr 1
  unfold tupI
  congr 1
  generalize c.toNat = n
  induction n with
  | zero => rfl
  | succ n ih => rw [List.replicate_succ, List.flatten_cons, ih, List.replicate_succ, List.map_cons]; rfl
/-! ## the same -/
theorem same_i (n : Nat) (i : Int) (st : Sto) : φ__law_same (n + 1) [.p (.int i), .p (.int i)] st = .ok (.p (.bool true)) st := by
  refine e_fn (e_nx (env1 := [some (.p (.int i)), some (.p (.int i)), none]) (st1 := st) (e_if (e_orF (e_tV (b := false) (isi rfl rfl)) (e_tV (b := false) (isi rfl rfl))) (by rw [if_neg Bool.false_ne_true]; rfl)) ?_)
  refine e_nx (env1 := [some (.p (.int i)), some (.p (.int i)), none]) (st1 := st) (e_if (e_orF (e_tB (b := false) (e_m2 (isi (b := false) rfl rfl) (isi (b := false) rfl rfl) (l2 (k := 3) rfl rfl (neP_b _ _)))) (e_tB (b := false) (e_m2 (isi (b := true) rfl rfl) (isi (b := true) rfl rfl) (l2 (k := 3) rfl rfl (neP_b _ _))))) (by rw [if_neg Bool.false_ne_true]; rfl)) (e_ret (e_m2 rfl rfl (l2 (k := 3) rfl rfl ?_)))
  rw [eqP_i]
  simp
theorem sm_ok {n : Nat} (h : n ≤ 1000000) : smallI (n : Int) = true := by
  have h1 : -(2 ^ 62) ≤ (n : Int) := by omega
  have h2 : (n : Int) < 2 ^ 62 := by omega
  unfold smallI
  rw [decide_eq_true h1, decide_eq_true h2]
  rfl
theorem rng1_ok {n : Nat} (h : smallI (n : Int) = true) : rng1 [.p (.int n)] = some (.fix (rngL 0 n)) := by
  generalize hz : (n : Int) = z at h
  have e : rng1 [.p (.int z)] = some (.fix (rngL 0 z.toNat)) := by
    unfold rng1
    simp only
    exact if_pos h
  rw [e, ← hz]
  rfl
theorem src_rng {ms : Env' → M (List D)} {env : Env'} {st st1 : Sto} {n : Nat} (h : ms env st = .ok [.p (.int n)] st1) (hn : n ≤ 1000000) : iArgs ms rng1 env st = .ok (.fix ((List.range n).map fun (j : Nat) => .p (.int (0 + (j : Int))))) st1 := by
  unfold iArgs
  rw [bnd_ok h, rng1_ok (sm_ok hn)]
  rfl
theorem same_t (n : Nat) (xs : List PyData) (st : Sto) (hl : xs.length ≤ 1000) (h : ∀ x ∈ xs, φ__law_same n [.p x, .p x] st = .ok (.p (.bool true)) st) : φ__law_same (n + 1) [.p (.tuple xs), .p (.tuple xs)] st = .ok (.p (.bool true)) st := by
  have hlen : mL (aCons (mVar 0) (aNil)) (gL1 lenG) [some (.p (.tuple xs)), some (.p (.tuple xs)), none] st = .ok (.p (.int xs.length)) st := e_lenT rfl (by omega)
  have hlen1 : mL (aCons (mVar 1) (aNil)) (gL1 lenG) [some (.p (.tuple xs)), some (.p (.tuple xs)), none] st = .ok (.p (.int xs.length)) st := e_lenT rfl (by omega)
  refine e_fn (e_seqr (e_if (e_orT (e_tV (b := true) (isi rfl rfl))) ?_))
  rw [if_pos rfl]
  refine e_nx (env1 := [some (.p (.tuple xs)), some (.p (.tuple xs)), none]) (st1 := st) (e_if (k := false) (e_orF (e_tNt (e_tV (b := true) (isi rfl rfl))) (e_orF (e_tNt (e_tV (b := true) (isi rfl rfl))) (e_tB (e_m2 hlen hlen1 (l2 (k := 3) rfl rfl (by rw [neP_i]; simp)))))) (by rw [if_neg Bool.false_ne_true]; rfl)) ?_
  have src : iArgs (aCons (mL (aCons (mVar 0) (aNil)) (gL1 lenG)) (aNil)) rng1 [some (.p (.tuple xs)), some (.p (.tuple xs)), none] st = .ok (.fix ((List.range xs.length).map fun (j : Nat) => .p (.int (0 + (j : Int))))) st := by
    exact src_rng (e_cons hlen e_nil) (by omega)
  refine e_ret ?_
  have := all_end (h := fun _ : Nat => true) (comp_all (t := tTr) (g := .nm 2) (own := [2]) (m := mCall (aCons (m2 (mVar 0) (mVar 2) ixG) (aCons (m2 (mVar 1) (mVar 2) ixG) (aNil))) (sized 2 (φ__law_same n))) (e := fun j : Nat => .int (0 + (j : Int))) (h := fun _ => .bool true) src (by simp; omega) fun j hj => ?_)
  · rw [this, List.all_eq_true.mpr (fun _ _ => rfl)]
  · have hjl : j < xs.length := by simpa using hj
    have hat : L2.atI xs (0 + (j : Int)) = some xs[j] := by
      rw [Int.zero_add]
      show L2.atI xs (j : Int) = _
      unfold L2.atI L2.ixN
      rw [if_pos (by omega), if_pos (by omega)]
      simp [hjl]
    have hx : lft (ixG (.p (.tuple xs)) (.p (.int (0 + (j : Int))))) st = .ok (.p xs[j]) st := by
      show (match ((L2.atI xs (0 + (j : Int))).map fun x => (D.p x, st)) with
        | some (d, st') => Fw.R.ok d st'
        | none => .bad) = _
      rw [hat]
      rfl
    exact turn1 (env1 := [some (.p (.tuple xs)), some (.p (.tuple xs)), some (.p (.int (0 + (j : Int))))]) rfl (e_call (e_cons (e_m2 rfl rfl hx) (e_cons (e_m2 rfl rfl hx) e_nil)) rfl (h xs[j] (List.getElem_mem hjl)))
end Q30

set_option maxRecDepth 100000
set_option maxHeartbeats 4000000
namespace Q30
open PySem PySem.Spec Fw
open L2 (Key)
/-! ## the box -/
def boxStep (m : Nat) (found : List (List Int)) : List (List Int) := found.flatMap fun row => (List.range (m + 1)).map fun (k : Nat) => row ++ [(k : Int)]
def boxL : Nat → Nat → List (List Int)
  | 0, _ => [[]]
  | n + 1, m => boxStep m (boxL n m)
theorem box_mem : ∀ {n m : Nat} {k : List Int}, k ∈ boxL n m → k.length = n ∧ ∀ i ∈ k, 0 ≤ i
  | 0, m, k, h => by
    have e : k = [] := List.mem_singleton.mp h
    rw [e]
    exact ⟨rfl, fun i h => absurd h List.not_mem_nil⟩
  | n + 1, m, k, h => by
    obtain ⟨row, hr, h2⟩ := List.mem_flatMap.mp h
    obtain ⟨j, _, rfl⟩ := List.mem_map.mp h2
    obtain ⟨h3, h4⟩ := box_mem hr
    refine ⟨by simp [h3], fun i hi => ?_⟩
    rcases List.mem_append.mp hi with a | a
    · exact h4 i a
    · have : i = (j : Int) := List.mem_singleton.mp a
      omega
theorem box_1 (st : Sto) : φ__law_box [.p (.int 1), .p (.int 6)] st = .ok (.p (.list (Rw (boxL 1 6)))) st := by kernel_rfl
theorem box_2 (st : Sto) : φ__law_box [.p (.int 2), .p (.int 6)] st = .ok (.p (.list (Rw (boxL 2 6)))) st := by kernel_rfl
theorem box_3 (st : Sto) : φ__law_box [.p (.int 3), .p (.int 4)] st = .ok (.p (.list (Rw (boxL 3 4)))) st := by kernel_rfl
/-! ## the tape -/
def tp (cells : List Int) (seed : Int) (rest : Sto) : Sto := .lst (cells.map fun i => .p (.int i)) :: .lst [.loc 0, .p (.int seed)] :: rest
def Tp (st : Sto) : Prop := ∃ cells seed rest, st = tp cells seed rest ∧ cells.length ≤ 63 ∧ 0 ≤ seed ∧ seed < 2147483648
theorem log_small {i : Int} (h : i.natAbs < 2 ^ 40) : i.natAbs.log2 < 40 := by
  by_cases q : i.natAbs = 0
  · rw [q]; decide
  · exact (Nat.log2_lt q).mpr h
theorem mulOk_small {i j : Int} (hi : i.natAbs < 2 ^ 40) (hj : j.natAbs < 2 ^ 40) : mulOk i j = true := by
  have h1 := log_small hi
  have h2 := log_small hj
  exact decide_eq_true (by omega)
theorem mulP_i {i j : Int} (hi : i.natAbs < 2 ^ 40) (hj : j.natAbs < 2 ^ 40) : mulP (.int i) (.int j) = some (.int (i * j)) := by
  show (if mulOk i j = true then some (PyData.int (i * j)) else none) = _
  rw [if_pos (mulOk_small hi hj)]
theorem modP_i {i j : Int} (hj : 0 < j) : modP (.int i) (.int j) = some (.int (i.fmod j)) := by
  show (if j ≠ 0 then some (PyData.int (i.fmod j)) else none) = _
  rw [if_pos (by omega)]
theorem fdivP_i {i j : Int} (hj : 0 < j) (h2 : j < 1000) : fdivP (.int i) (.int j) = some (.int (i.fdiv j)) := by
  have h3 : j.natAbs.log2 < 40 := log_small (by omega)
  show (if j ≠ 0 ∧ j.natAbs.log2 < 9000 then some (PyData.int (i.fdiv j)) else none) = _
  rw [if_pos ⟨by omega, by omega⟩]
theorem fmod_bd (i : Int) {j : Int} (hj : 0 < j) : 0 ≤ i.fmod j ∧ i.fmod j < j := ⟨Int.fmod_nonneg_of_pos i hj, Int.fmod_lt_of_pos i hj⟩
theorem lst0 {cells : List Int} {seed : Int} {rest : Sto} : (tp cells seed rest)[0]? = some (.lst (cells.map fun i => .p (.int i))) := rfl
theorem lst1 {cells : List Int} {seed : Int} {rest : Sto} : (tp cells seed rest)[1]? = some (.lst [.loc 0, .p (.int seed)]) := rfl
theorem len0 {cells : List Int} {seed : Int} {rest : Sto} {m : Env' → M D} {env : Env'} (hm : m env (tp cells seed rest) = .ok (.loc 0) (tp cells seed rest)) : mL (aCons m aNil) (gL1 lenG) env (tp cells seed rest) = .ok (.p (.int cells.length)) (tp cells seed rest) := by
  refine e_mL (e_cons hm e_nil) ?_
  have e : lenG (.loc 0) (tp cells seed rest) = some (.p (.int (cells.map fun i => D.p (.int i)).length), tp cells seed rest) := rfl
  show lft (lenG (.loc 0)) _ = _
  unfold lft
  rw [e, List.length_map]
theorem ix0 {n : Nat} : L2.ixN (n + 1) 0 = some 0 := by
  unfold L2.ixN
  rw [if_pos (by decide), if_pos (by omega)]
  rfl
theorem set0 {x y : Int} {cells : List Int} {seed : Int} {rest : Sto} : setG (.loc 0) (.p (.int 0)) (.p (.int y)) (tp (x :: cells) seed rest) = some (tp (y :: cells) seed rest) := by
  have e : setG (.loc 0) (.p (.int 0)) (.p (.int y)) (tp (x :: cells) seed rest) = (match L2.ixN ((cells.map fun i => D.p (.int i)).length + 1) 0 with
    | some j => some ((tp (x :: cells) seed rest).set 0 (.lst ((D.p (.int x) :: cells.map fun i => D.p (.int i)).set j (.p (.int y)))))
    | none => none) := rfl
  rw [e, ix0]
  rfl
theorem pop0 {x : Int} {cells : List Int} {seed : Int} {rest : Sto} (h : cells.length ≤ 63) : popAtG (.loc 0) [.p (.int 0)] (tp (x :: cells) seed rest) = some (.p (.int x), tp cells seed rest) := by
  have e : popAtG (.loc 0) [.p (.int 0)] (tp (x :: cells) seed rest) = (if (0 : Int) ≤ 0 ∧ (D.p (.int x) :: cells.map fun i => D.p (.int i)).length ≤ 1000000 then some (D.p (.int x), tp cells seed rest) else none) := rfl
  rw [e, if_pos ⟨by decide, by simp; omega⟩]
theorem at0 {x : Int} {cells : List Int} {seed : Int} {rest : Sto} : lft (ixG (.loc 0) (.p (.int 0))) (tp (x :: cells) seed rest) = .ok (.p (.int x)) (tp (x :: cells) seed rest) := by
  have e : ixG (.loc 0) (.p (.int 0)) (tp (x :: cells) seed rest) = (((L2.ixN ((cells.map fun i => D.p (.int i)).length + 1) 0).bind fun j => (D.p (.int x) :: cells.map fun i => D.p (.int i))[j]?).map fun z => (z, tp (x :: cells) seed rest)) := rfl
  unfold lft
  rw [e, ix0]
  rfl
theorem e_tAnF {t u : Env' → M Bool} {env : Env'} {st st1 : Sto} (h : t env st = .ok false st1) : tAn t u env st = .ok false st1 := by
  unfold tAn
  rw [bnd_ok h, if_neg Bool.false_ne_true]
  rfl
theorem e_tAnT {t u : Env' → M Bool} {env : Env'} {st st1 : Sto} {r : Fw.R Bool} (h : t env st = .ok true st1) (h2 : u env st1 = r) : tAn t u env st = r := by
  unfold tAn
  rw [bnd_ok h, if_pos rfl]
  exact h2
theorem e_wF {c : Env' → M Bool} {b : MS} {f : Nat} {env : Env'} {st st1 : Sto} (h : c env st = .ok false st1) : sWhile c b (f + 1) env st = .nx env st1 := by
  show sbnd (c env) env _ st = _
  unfold sbnd
  rw [h]
  rfl
theorem e_wT {c : Env' → M Bool} {b : MS} {f : Nat} {env env1 : Env'} {st st1 st2 : Sto} {r : RS} (h : c env st = .ok true st1) (hb : b env st1 = .nx env1 st2) (h2 : sWhile c b f env1 st2 = r) : sWhile c b (f + 1) env st = r := by
  show sbnd (c env) env _ st = _
  unfold sbnd
  rw [h]
  simp only [if_true, hb]
  exact h2
theorem e_seti {mo mi me : Env' → M D} {env : Env'} {st st1 st2 : Sto} {v o i : D} (h1 : me env st = .ok v st1) (h2 : mo env st1 = .ok o st1) (h3 : mi env st1 = .ok i st1) (h4 : setG o i v st1 = some st2) : sSetI mo mi me env st = .nx env st2 := by
  unfold sSetI sbnd
  rw [bnd_ok h1, bnd_ok h2, bnd_ok h3]
  simp only [h4]
theorem w_loop {seed many : Int} {rest : Sto} : ∀ (f : Nat) (cells : List Int), cells.length ≤ 63 → cells.length < f → ∃ cells', cells'.length ≤ cells.length ∧
    sWhile (tAn (tB (m2 (mL (aCons (mVar 2) (aNil)) (gL1 lenG)) (mC (.int 0)) (lift2 3 gtP))) (tB (m2 (m2 (mVar 2) (mC (.int 0)) ixG) (mC (.int 0)) (lift2 3 eqP)))) (sSeq (sExp (mMth (mVar 2) (aCons (mC (.int 0)) (aNil)) popAtG)) (sNil)) f [some (.loc 1), some (.p (.int many)), some (.loc 0), none] (tp cells seed rest) = .nx [some (.loc 1), some (.p (.int many)), some (.loc 0), none] (tp cells' seed rest)
  | 0, cells, _, h => by omega
  | f + 1, [], _, _ => ⟨[], Nat.le_refl _, e_wF (e_tAnF (e_tB (b := false) (e_m2 (len0 rfl) (e := .p (.int 0)) (st2 := tp [] seed rest) rfl (l2 (k := 3) rfl rfl (gtP_i _ 0)))))⟩
  | f + 1, x :: cells, hc, h => by
    have c1 : tB (m2 (mL (aCons (mVar 2) (aNil)) (gL1 lenG)) (mC (.int 0)) (lift2 3 gtP)) [some (.loc 1), some (.p (.int many)), some (.loc 0), none] (tp (x :: cells) seed rest) = .ok true (tp (x :: cells) seed rest) := by
      have := e_m2 (g := lift2 3 gtP) (len0 (cells := x :: cells) (seed := seed) (rest := rest) (m := mVar 2) (env := [some (.loc 1), some (.p (.int many)), some (.loc 0), none]) rfl) (mb := mC (.int 0)) (e := .p (.int 0)) (st2 := tp (x :: cells) seed rest) rfl (l2 (k := 3) rfl rfl (gtP_i _ 0))
      rw [decide_eq_true (by simp)] at this
      exact e_tB this
    have c2 : tB (m2 (m2 (mVar 2) (mC (.int 0)) ixG) (mC (.int 0)) (lift2 3 eqP)) [some (.loc 1), some (.p (.int many)), some (.loc 0), none] (tp (x :: cells) seed rest) = .ok (x == 0) (tp (x :: cells) seed rest) :=
      e_tB (e_m2 (e_m2 rfl (e := .p (.int 0)) (st2 := tp (x :: cells) seed rest) rfl at0) (e := .p (.int 0)) (st2 := tp (x :: cells) seed rest) rfl (l2 (k := 3) rfl rfl (eqP_i x 0)))
    by_cases q : (x == 0) = true
    · rw [q] at c2
      obtain ⟨cells', h1, h2⟩ := w_loop f cells (by simp at hc; omega) (by simp at h; omega)
      have hp : sSeq (sExp (mMth (mVar 2) (aCons (mC (.int 0)) (aNil)) popAtG)) (sNil) [some (.loc 1), some (.p (.int many)), some (.loc 0), none] (tp (x :: cells) seed rest) = .nx [some (.loc 1), some (.p (.int many)), some (.loc 0), none] (tp cells seed rest) := by
        refine e_nx (env1 := [some (.loc 1), some (.p (.int many)), some (.loc 0), none]) (st1 := tp cells seed rest) ?_ rfl
        have e1 : mMth (mVar 2) (aCons (mC (.int 0)) (aNil)) popAtG [some (.loc 1), some (.p (.int many)), some (.loc 0), none] (tp (x :: cells) seed rest) = .ok (.p (.int x)) (tp cells seed rest) := by
          show lft (popAtG (.loc 0) [.p (.int 0)]) (tp (x :: cells) seed rest) = _
          unfold lft
          rw [pop0 (by simp at hc; omega)]
        unfold sExp sbnd
        rw [e1]
      exact ⟨cells', by simp; omega, e_wT (e_tAnT c1 c2) hp h2⟩
    · have q' : (x == 0) = false := by simpa using q
      rw [q'] at c2
      exact ⟨x :: cells, Nat.le_refl _, e_wF (e_tAnT c1 c2)⟩
theorem at1 {cells : List Int} {seed : Int} {rest : Sto} : lft (ixG (.loc 1) (.p (.int 1))) (tp cells seed rest) = .ok (.p (.int seed)) (tp cells seed rest) := by
  rfl
theorem e_draw {st : Sto} (h : Tp st) {many : Int} (h1 : 0 < many) (h2 : many < 100) : ∃ (r : Int) (st' : Sto), φ__law_draw [.loc 1, .p (.int many)] st = .ok (.p (.int r)) st' ∧ 0 ≤ r ∧ r < many ∧ Tp st' := by
  obtain ⟨cells, seed, rest, rfl, hl, s1, s2⟩ := h
  obtain ⟨cells', hl', hw⟩ := w_loop (seed := seed) (many := many) (rest := rest) 100 cells hl (by omega)
  have start : sAsg (.nm 2) (m2 (mVar 0) (mC (.int 0)) ixG) [some (.loc 1), some (.p (.int many)), none, none] (tp cells seed rest) = .nx [some (.loc 1), some (.p (.int many)), some (.loc 0), none] (tp cells seed rest) := rfl
  cases cells' with
  | cons x r =>
    obtain ⟨b1, b2⟩ := fmod_bd x h1
    have c1 : tB (m2 (mL (aCons (mVar 2) (aNil)) (gL1 lenG)) (mC (.int 0)) (lift2 3 gtP)) [some (.loc 1), some (.p (.int many)), some (.loc 0), none] (tp (x :: r) seed rest) = .ok true (tp (x :: r) seed rest) := by
      have := e_m2 (g := lift2 3 gtP) (len0 (cells := x :: r) (seed := seed) (rest := rest) (m := mVar 2) (env := [some (.loc 1), some (.p (.int many)), some (.loc 0), none]) rfl) (mb := mC (.int 0)) (e := .p (.int 0)) (st2 := tp (x :: r) seed rest) rfl (l2 (k := 3) rfl rfl (gtP_i _ 0))
      rw [decide_eq_true (by simp)] at this
      exact e_tB this
    refine ⟨x.fmod many, tp (x.fdiv many :: r) seed rest, e_fn (e_nx start (e_nx hw (e_seqr (e_if c1 ?_)))), b1, b2, x.fdiv many :: r, seed, rest, rfl, by simp at hl' ⊢; omega, s1, s2⟩
    rw [if_pos rfl]
    refine e_nx (env1 := [some (.loc 1), some (.p (.int many)), some (.loc 0), some (.p (.int x))]) (st1 := tp (x :: r) seed rest) (e_set (e_m2 rfl (e := .p (.int 0)) (st2 := tp (x :: r) seed rest) rfl at0) rfl) ?_
    refine e_nx (env1 := [some (.loc 1), some (.p (.int many)), some (.loc 0), some (.p (.int x))]) (st1 := tp (x.fdiv many :: r) seed rest) ?_ (e_ret (e_m2 (e_mL (e_cons rfl e_nil) (l1 (k := 1) rfl rfl)) rfl (l2 (k := 1) rfl rfl (modP_i h1))))
    have e1 : m2 (mVar 3) (mVar 1) (lift2 1 fdivP) [some (.loc 1), some (.p (.int many)), some (.loc 0), some (.p (.int x))] (tp (x :: r) seed rest) = .ok (.p (.int (x.fdiv many))) (tp (x :: r) seed rest) := e_m2 rfl rfl (l2 (k := 1) rfl rfl (fdivP_i h1 (by omega)))
    exact e_seti e1 rfl rfl set0
  | nil =>
    have c1 : tB (m2 (mL (aCons (mVar 2) (aNil)) (gL1 lenG)) (mC (.int 0)) (lift2 3 gtP)) [some (.loc 1), some (.p (.int many)), some (.loc 0), none] (tp [] seed rest) = .ok false (tp [] seed rest) := e_tB (e_m2 (len0 rfl) (e := .p (.int 0)) (st2 := tp [] seed rest) rfl (l2 (k := 3) rfl rfl (gtP_i _ 0)))
    obtain ⟨b1, b2⟩ := fmod_bd (seed * 48271 + 12345) (j := 2147483647) (by decide)
    obtain ⟨d1, d2⟩ := fmod_bd (((seed * 48271 + 12345).fmod 2147483647).fdiv 64) h1
    refine ⟨_, tp [] ((seed * 48271 + 12345).fmod 2147483647) rest, e_fn (e_nx start (e_nx hw (e_nx (e_if c1 (by rw [if_neg Bool.false_ne_true]; rfl)) ?_))), d1, d2, [], _, rest, rfl, by simp, b1, by omega⟩
    refine e_nx (env1 := [some (.loc 1), some (.p (.int many)), some (.loc 0), none]) (st1 := tp [] ((seed * 48271 + 12345).fmod 2147483647) rest) ?_ (e_ret (e_m2 (e_mL (e_cons (e_m2 (e_m2 rfl (e := .p (.int 1)) (st2 := tp [] _ rest) rfl at1) (e := .p (.int 64)) (st2 := tp [] _ rest) rfl (l2 (k := 1) rfl rfl (fdivP_i (by decide) (by decide)))) e_nil) (l1 (k := 1) rfl rfl)) rfl (l2 (k := 1) rfl rfl (modP_i h1))))
    have e1 : m2 (mL (aCons (m2 (m2 (m2 (mVar 0) (mC (.int 1)) ixG) (mC (.int 48271)) (lift2 1 mulP)) (mC (.int 12345)) (lift2 1 addP)) (aNil)) (gL1 (lift1 1 intP))) (mC (.int 2147483647)) (lift2 1 modP) [some (.loc 1), some (.p (.int many)), some (.loc 0), none] (tp [] seed rest) = .ok (.p (.int ((seed * 48271 + 12345).fmod 2147483647))) (tp [] seed rest) :=
      e_m2 (e_mL (e_cons (e_m2 (e_m2 (e_m2 rfl (e := .p (.int 1)) (st2 := tp [] seed rest) rfl at1) (e := .p (.int 48271)) (st2 := tp [] seed rest) rfl (l2 (k := 1) rfl rfl (mulP_i (by omega) (by decide)))) (e := .p (.int 12345)) (st2 := tp [] seed rest) rfl (l2 (k := 1) rfl rfl rfl)) e_nil) (l1 (k := 1) rfl rfl)) (e := .p (.int 2147483647)) (st2 := tp [] seed rest) rfl (l2 (k := 1) rfl rfl (modP_i (by decide)))
    exact e_seti e1 (o := .loc 1) rfl (i := .p (.int 1)) rfl rfl
end Q30

set_option maxRecDepth 100000
set_option maxHeartbeats 4000000
namespace Q30
open PySem PySem.Spec Fw
open L2 (Key)
/-! ## draws, one after another -/
theorem turn1s {g : G} {env env1 : Env'} {m : Env' → M D} {x d : D} {st st1 : Sto} (hg : gSet g x env = some env1) (h : m env1 st = .ok d st1) : turnG g env (bodyC tTr m) x st = .ok [d] st1 := by
  unfold turnG
  rw [hg]
  show noexc (bodyC tTr m env1) st = _
  unfold noexc bodyC
  have e1 : bnd (tTr env1) (fun b => if b = true then bnd (m env1) fun y => Fw.ret [y] else Fw.ret []) st = .ok [d] st1 := by
    rw [bnd_ok (show tTr env1 st = .ok true st from rfl), if_pos rfl, bnd_ok h]
    rfl
  rw [e1]
theorem compL_st {P : D → Prop} {turn : D → M (List D)} : ∀ {xs : List D}, (∀ st, Tp st → ∀ x ∈ xs, ∃ y st', turn x st = .ok [y] st' ∧ P y ∧ Tp st') → ∀ st, Tp st → ∃ ys st', compL turn xs st = .ok ys st' ∧ ys.length = xs.length ∧ (∀ y ∈ ys, P y) ∧ Tp st'
  | [], _, st, h => ⟨[], st, rfl, rfl, fun y hy => absurd hy List.not_mem_nil, h⟩
  | x :: xs, hx, st, h => by
    obtain ⟨y, st1, h1, h2, h3⟩ := hx st h x List.mem_cons_self
    obtain ⟨ys, st2, g1, g2, g3, g4⟩ := compL_st (P := P) (turn := turn) (xs := xs) (fun st hs z hz => hx st hs z (List.mem_cons_of_mem _ hz)) st1 h3
    refine ⟨y :: ys, st2, ?_, by simp [g2], fun z hz => ?_, g4⟩
    · unfold compL
      rw [bnd_ok h1, bnd_ok g1]
      rfl
    · rcases List.mem_cons.mp hz with e | hz
      · rw [e]; exact h2
      · exact g3 z hz
theorem comp_st {α : Type} {Q : α → Prop} {e : α → PyData} {mi : Env' → M Src} {g : G} {own : List Nat} {m : Env' → M D} {env : Env'} {st : Sto} {xs : List D} (h : Tp st) (hs : mi env st = .ok (.fix xs) st) (hl : xs.length ≤ 1000)
    (ht : ∀ st, Tp st → ∀ x ∈ xs, ∃ a st', turnG g (wipeE env own) (bodyC tTr m) x st = .ok [.p (e a)] st' ∧ Q a ∧ Tp st') :
    ∃ (as : List α) (st' : Sto), mComp false mi g own tTr m env st = .ok (.p (.list (as.map e))) st' ∧ as.length = xs.length ∧ (∀ a ∈ as, Q a) ∧ Tp st' := by
  obtain ⟨ys, st', h1, h2, h3, h4⟩ := compL_st (P := fun d => ∃ a, d = .p (e a) ∧ Q a) (turn := turnG g (wipeE env own) (bodyC tTr m)) (xs := xs) (fun st hst x hx => by
    obtain ⟨a, st', q1, q2, q3⟩ := ht st hst x hx
    exact ⟨_, st', q1, ⟨a, rfl, q2⟩, q3⟩) st h
  have key : ∀ ys : List D, (∀ y ∈ ys, ∃ a, y = D.p (e a) ∧ Q a) → ∃ as : List α, ys = as.map (fun a => D.p (e a)) ∧ ∀ a ∈ as, Q a := by
    intro ys
    induction ys with
    | nil => intro _; exact ⟨[], rfl, fun a ha => absurd ha List.not_mem_nil⟩
    | cons y ys ih =>
      intro hy
      obtain ⟨a, e1, q1⟩ := hy y List.mem_cons_self
      obtain ⟨as, e2, q2⟩ := ih fun z hz => hy z (List.mem_cons_of_mem _ hz)
      refine ⟨a :: as, by rw [e1, e2]; rfl, fun b hb => ?_⟩
      rcases List.mem_cons.mp hb with z | hb
      · rw [z]; exact q1
      · exact q2 b hb
  obtain ⟨as, rfl, q⟩ := key ys h3
  refine ⟨as, st', ?_, by simpa using h2, q, h4⟩
  unfold mComp
  rw [bnd_ok hs]
  have hr : compR 1000000 env g own (bodyC tTr m) (.fix xs) st = .ok (as.map fun a => .p (e a)) st' := by
    unfold compR
    show (if xs.length ≤ 1000000 then compS (.fix xs) (turnG g (wipeE env own) (bodyC tTr m)) xs.length 0 st else .bad) = _
    rw [if_pos (by omega), compS_fix _ _ (by omega)]
    exact h1
  rw [bnd_ok hr]
  show (match pures (as.map fun a => D.p (e a)) with
    | some xs => Fw.R.ok (D.p (.list xs)) st'
    | none => .bad) = _
  rw [pures_mapp]
theorem e_tupd {N : List D} {c many : Nat} {i : Nat} {env : Env'} {st : Sto} (h : Tp st) (hc : c ≤ 100) {mi : Env' → M Src} {m : Env' → M D} {g : G} {own : List Nat} (hs : mi env st = .ok (.fix ((List.range c).map fun (j : Nat) => .p (.int (0 + (j : Int))))) st)
    (ht : ∀ st, Tp st → ∀ (j : Nat), ∃ (r : Int) (st' : Sto), turnG g (wipeE env own) (bodyC tTr m) (.p (.int (0 + (j : Int)))) st = .ok [.p (.int r)] st' ∧ (0 ≤ r ∧ r < many) ∧ Tp st') :
    ∃ (k : List Int) (st' : Sto), mL (aCons (mComp false mi g own tTr m) aNil) (gL1 (lift1 1 tupP)) env st = .ok (.p (tupI k)) st' ∧ k.length = c ∧ (∀ r ∈ k, 0 ≤ r ∧ r < many) ∧ Tp st' := by
  obtain ⟨k, st', h1, h2, h3, h4⟩ := comp_st (Q := fun r : Int => 0 ≤ r ∧ r < many) (e := .int) h hs (by simp; omega) fun st hst x hx => by
    obtain ⟨j, _, rfl⟩ := List.mem_map.mp hx
    exact ht st hst j
  exact ⟨k, st', tup_end h1, by simpa using h2, h3, h4⟩
theorem e_step {c : Nat} (hc : c ≤ 100) {env : Env'} {st : Sto} (h : Tp st) {i a b : Nat} {env0 : Env'} (hv : mVar a env st = .ok (.p (.int c)) st)
    (he : ∀ (j : Nat) (st : Sto), ∃ env1, gSet (.nm i) (.p (.int (0 + (j : Int)))) (wipeE env [i]) = some env1 ∧ mVar b env1 st = .ok (.loc 1) st) :
    ∃ (k : List Int) (st' : Sto), mL (aCons (mComp false (iArgs (aCons (mVar a) aNil) rng1) (.nm i) [i] tTr (mCall (aCons (mVar b) (aCons (mC (.int 4)) aNil)) (sized 2 φ__law_draw))) aNil) (gL1 (lift1 1 tupP)) env st = .ok (.p (tupI k)) st' ∧ k.length = c ∧ (∀ r ∈ k, 0 ≤ r ∧ r < 4) ∧ Tp st' :=
  e_tupd (N := []) (i := 0) h hc (src_rng (e_cons hv e_nil) (by omega)) fun st hst j => by
    obtain ⟨r, st', h1, h2, h3, h4⟩ := e_draw hst (many := 4) (by decide) (by decide)
    obtain ⟨env1, g1, g2⟩ := he j st
    exact ⟨r, st', turn1s g1 (e_call (e_cons g2 (e_cons (d := .p (.int 4)) (st1 := st) rfl e_nil)) rfl h1), ⟨h2, h3⟩, h4⟩
theorem e_mono {st : Sto} (h : Tp st) {c n : Nat} (hc : c ≤ 100) (hn : n ≤ 100) : ∃ (ks : List (List Int)) (st' : Sto), φ__law_monomials [.loc 1, .p (.int c), .p (.int 3), .p (.int n)] st = .ok (.p (.tuple (Rw ks))) st' ∧ ks.length = n ∧ (∀ k ∈ ks, k.length = c ∧ ∀ r ∈ k, 0 ≤ r ∧ r < 4) ∧ Tp st' := by
  obtain ⟨ks, st', h1, h2, h3, h4⟩ := comp_st (Q := fun k : List Int => k.length = c ∧ ∀ r ∈ k, 0 ≤ r ∧ r < 4) (e := tupI) (mi := iArgs (aCons (mVar 3) aNil) rng1) (g := .nm 4) (own := [4]) (m := mL (aCons (mComp false (iArgs (aCons (mVar 1) (aNil)) rng1) (.nm 5) [5] (tTr) (mCall (aCons (mVar 0) (aCons (m2 (mVar 2) (mC (.int 1)) (lift2 1 addP)) (aNil))) (sized 2 φ__law_draw))) (aNil)) (gL1 (lift1 1 tupP)))
    (env := [some (.loc 1), some (.p (.int c)), some (.p (.int 3)), some (.p (.int n)), none, none]) h (src_rng (n := n) (e_cons rfl e_nil) (by omega)) (by simp; omega) fun st hst x hx => by
      obtain ⟨j, _, rfl⟩ := List.mem_map.mp hx
      obtain ⟨k, st', h1, h2, h3, h4⟩ := e_tupd (N := []) (i := 0) (env := [some (.loc 1), some (.p (.int c)), some (.p (.int 3)), some (.p (.int n)), some (.p (.int (0 + (j : Int)))), none]) (c := c) (many := 4) (mi := iArgs (aCons (mVar 1) (aNil)) rng1) (g := .nm 5) (own := [5]) (m := mCall (aCons (mVar 0) (aCons (m2 (mVar 2) (mC (.int 1)) (lift2 1 addP)) (aNil))) (sized 2 φ__law_draw)) hst hc (src_rng (e_cons rfl e_nil) (by omega)) fun st hst j2 => by
        obtain ⟨r, st', h1, h2, h3, h4⟩ := e_draw hst (many := 4) (by decide) (by decide)
        exact ⟨r, st', turn1s rfl (e_call (e_cons rfl (e_cons (d := .p (.int 4)) (st1 := st) (e_m2 rfl (e := .p (.int 1)) (st2 := st) rfl (l2 (k := 1) rfl rfl rfl)) e_nil)) rfl h1), ⟨h2, h3⟩, h4⟩
      exact ⟨k, st', turn1s rfl h1, ⟨h2, h3⟩, h4⟩
  exact ⟨ks, st', e_fn (e_ret (tup_end h1)), by simpa using h2, h3, h4⟩
/-! ## the tape, made -/
theorem forL_seed {d : D} : ∀ (ns : List Int) (s : Int) (o : Option D), 0 ≤ s → s < 1000003 → ∃ (s' : Int) (o' : Option D), 0 ≤ s' ∧ s' < 1000003 ∧
    forL (.nm 2) (sSeq (sAsg (.nm 1) (m2 (mL (aCons (m2 (m2 (mVar 1) (mC (.int 31)) (lift2 1 mulP)) (mVar 2) (lift2 1 addP)) (aNil)) (gL1 (lift1 1 intP))) (mC (.int 1000003)) (lift2 1 modP))) (sNil)) (ns.map fun i => .p (.int i)) [some d, some (.p (.int s)), o] ([] : Sto) = .nx [some d, some (.p (.int s')), o'] []
  | [], s, o, h1, h2 => ⟨s, o, h1, h2, rfl⟩
  | i :: ns, s, o, h1, h2 => by
    obtain ⟨b1, b2⟩ := fmod_bd (s * 31 + i) (j := 1000003) (by decide)
    obtain ⟨s', o', g1, g2, g3⟩ := forL_seed (d := d) ns ((s * 31 + i).fmod 1000003) (some (.p (.int i))) b1 b2
    refine ⟨s', o', g1, g2, ?_⟩
    have e1 : sSeq (sAsg (.nm 1) (m2 (mL (aCons (m2 (m2 (mVar 1) (mC (.int 31)) (lift2 1 mulP)) (mVar 2) (lift2 1 addP)) (aNil)) (gL1 (lift1 1 intP))) (mC (.int 1000003)) (lift2 1 modP))) (sNil) [some d, some (.p (.int s)), some (.p (.int i))] ([] : Sto) = .nx [some d, some (.p (.int ((s * 31 + i).fmod 1000003))), some (.p (.int i))] [] := by
      refine e_nx (e_set (e_m2 (e_mL (e_cons (e_m2 (e_m2 rfl (e := .p (.int 31)) (st2 := []) rfl (l2 (k := 1) rfl rfl (mulP_i (by omega) (by decide)))) rfl (l2 (k := 1) rfl rfl rfl)) e_nil) (l1 (k := 1) rfl rfl)) (e := .p (.int 1000003)) (st2 := []) rfl (l2 (k := 1) rfl rfl (modP_i (by decide)))) rfl) rfl
    show (match sSeq (sAsg (.nm 1) (m2 (mL (aCons (m2 (m2 (mVar 1) (mC (.int 31)) (lift2 1 mulP)) (mVar 2) (lift2 1 addP)) (aNil)) (gL1 (lift1 1 intP))) (mC (.int 1000003)) (lift2 1 modP))) (sNil) [some d, some (.p (.int s)), some (.p (.int i))] ([] : Sto) with
      | .nx env' st' => forL (.nm 2) _ (ns.map fun i => .p (.int i)) env' st'
      | .cnt env' st' => forL (.nm 2) _ (ns.map fun i => .p (.int i)) env' st'
      | .brk env' st' => .nx env' st'
      | r => r) = _
    rw [e1]
    exact g3
theorem e_for {mi : Env' → M Src} {g : G} {b : MS} {env : Env'} {st st1 : Sto} {xs : List D} (h : mi env st = .ok (.fix xs) st1) : sFor mi g b env st = forL g b xs env st1 := by
  unfold sFor sbnd
  rw [h]
  show forS (.fix xs) g b xs.length 0 env st1 = _
  rw [forS_fix _ _ (by omega)]
  rfl
theorem abs_i (i : Int) : absP (.int i) = some (.int (i.natAbs : Int)) := by
  show some (PyData.int _) = _
  congr 2
  omega
theorem endC_p {α : Type} (e : α → PyData) (xs : List α) (st : Sto) : endC true (xs.map fun x => D.p (e x)) st = .ok (.loc st.length) (st ++ [.lst (xs.map fun x => D.p (e x))]) := by
  unfold endC
  rw [if_pos rfl]
  split
  · rfl
  · rename_i h
    refine absurd (List.all_eq_true.mpr fun x hx => ?_) h
    obtain ⟨i, _, rfl⟩ := List.mem_map.mp hx
    rfl
theorem e_tape (ns : List Int) (hl : ns.length ≤ 63) : ∃ st, φ__law_tape [.p (.list (ns.map .int))] [] = .ok (.loc 1) st ∧ Tp st := by
  obtain ⟨s', o', h1, h2, h3⟩ := forL_seed (d := .p (.list (ns.map .int))) ns 7 none (by decide) (by decide)
  have src : ∀ o, iSeq (mVar 0) [some (.p (.list (ns.map .int))), some (.p (.int 7)), o] ([] : Sto) = .ok (.fix (ns.map fun i => .p (.int i))) [] := fun o => by
    rw [iSeq_lst (xs := ns.map .int) rfl, List.map_map]
    rfl
  refine ⟨tp (ns.map fun i => (i.natAbs : Int)) (s' + 1) [], e_fn (e_nx (env1 := [some (.p (.list (ns.map .int))), some (.p (.int 7)), none]) (st1 := []) rfl (e_nx ((e_for (src none)).trans h3) (e_ret ?_))), _, _, _, rfl, by simpa using hl, by omega, by omega⟩
  have hc : mCompV true 0 (.nm 2) [2] (tTr) (mL (aCons (mL (aCons (mVar 2) (aNil)) (gL1 (lift1 1 intP))) (aNil)) (gL1 (lift1 1 absP))) [some (.p (.list (ns.map .int))), some (.p (.int s')), o'] ([] : Sto) = .ok (.loc 0) [.lst ((ns.map fun i => (i.natAbs : Int)).map fun i => .p (.int i))] := by
    refine (compV_p rfl).trans ?_
    have hs : iSeq (mVar 0) [some (.p (.list (ns.map .int))), some (.p (.int s')), o'] ([] : Sto) = .ok (.fix (ns.map fun i => .p (.int i))) [] := by
      rw [iSeq_lst (xs := ns.map .int) rfl, List.map_map]
      rfl
    unfold mComp
    rw [bnd_ok hs]
    have hr : compR 1000000 [some (.p (.list (ns.map .int))), some (.p (.int s')), o'] (.nm 2) [2] (bodyC tTr (mL (aCons (mL (aCons (mVar 2) (aNil)) (gL1 (lift1 1 intP))) (aNil)) (gL1 (lift1 1 absP)))) (.fix (ns.map fun i => .p (.int i))) ([] : Sto) = .ok (ns.map fun i => .p (.int (i.natAbs : Int))) [] := by
      have hp := compR_pure (cap := 1000000) (env := [some (.p (.list (ns.map .int))), some (.p (.int s')), o']) (g := .nm 2) (own := [2]) (body := bodyC tTr (mL (aCons (mL (aCons (mVar 2) (aNil)) (gL1 (lift1 1 intP))) (aNil)) (gL1 (lift1 1 absP)))) (xs := ns.map fun i => .p (.int i)) (st := []) (f := fun d => match d with
        | .p (.int i) => [.p (.int (i.natAbs : Int))]
        | _ => []) (by simp; omega) fun x hx => by
          obtain ⟨i, _, rfl⟩ := List.mem_map.mp hx
          exact turn1 rfl (e_mL (e_cons (e_mL (e_cons rfl e_nil) (l1 (k := 1) rfl rfl)) e_nil) (l1 (k := 1) rfl (abs_i i)))
      rw [hp, flat_map]
      congr 1
      exact flat_one _ ns
    rw [bnd_ok hr]
    rw [endC_p, List.map_map]
    rfl
  exact e_mL (e_cons hc (e_cons (e_m2 rfl (e := .p (.int 1)) (st2 := [.lst ((ns.map fun i => (i.natAbs : Int)).map fun i => .p (.int i))]) rfl (l2 (k := 1) rfl rfl rfl)) e_nil)) rfl
end Q30

set_option maxRecDepth 100000
set_option maxHeartbeats 4000000
namespace Q30
open PySem PySem.Spec Fw
open L2 (Key)
/-! ## rows of equal length -/
theorem divB_cons (x y : Int) (a b : List Int) : divB (x :: a) (y :: b) = (decide (x ≤ y) && divB a b) := rfl
theorem divB_refl : ∀ a : List Int, divB a a = true
  | [] => rfl
  | x :: a => by rw [divB_cons, divB_refl a]; simp
theorem divB_trans : ∀ {a b c : List Int}, a.length = b.length → b.length = c.length → divB a b = true → divB b c = true → divB a c = true
  | [], [], [], _, _, _, _ => rfl
  | x :: a, y :: b, z :: c, h1, h2, h3, h4 => by
    rw [divB_cons, Bool.and_eq_true, decide_eq_true_eq] at *
    exact ⟨by omega, divB_trans (by simpa using h1) (by simpa using h2) h3.2 h4.2⟩
  | [], _ :: _, _, h, _, _, _ => by simp at h
  | _ :: _, [], _, h, _, _, _ => by simp at h
  | [], [], _ :: _, _, h, _, _ => by simp at h
  | _ :: _, _ :: _, [], _, h, _, _ => by simp at h
def sumN (k : List Int) : Nat := (k.map Int.toNat).sum
theorem sumN_lt : ∀ {a b : List Int}, a.length = b.length → (∀ i ∈ a, 0 ≤ i) → divB a b = true → sumN a ≤ sumN b ∧ (a ≠ b → sumN a < sumN b)
  | [], [], _, _, _ => ⟨Nat.le_refl _, fun h => absurd rfl h⟩
  | [], _ :: _, h, _, _ => by simp at h
  | _ :: _, [], h, _, _ => by simp at h
  | x :: a, y :: b, h, hp, hd => by
    rw [divB_cons, Bool.and_eq_true, decide_eq_true_eq] at hd
    obtain ⟨i1, i2⟩ := sumN_lt (a := a) (b := b) (by simpa using h) (fun i hi => hp i (List.mem_cons_of_mem _ hi)) hd.2
    have hx := hp x List.mem_cons_self
    have e1 : sumN (x :: a) = x.toNat + sumN a := by unfold sumN; simp
    have e2 : sumN (y :: b) = y.toNat + sumN b := by unfold sumN; simp
    have hxy : x.toNat ≤ y.toNat := by have := hd.1; omega
    refine ⟨by omega, fun hne => ?_⟩
    by_cases q : x = y
    · have : a ≠ b := fun z => hne (by rw [q, z])
      have := i2 this
      omega
    · have : x.toNat < y.toNat := by have := hd.1; omega
      omega
theorem heldB_iff {ks : List (List Int)} {r : List Int} : heldB ks r = true ↔ ∃ k ∈ ks, divB k r = true := by
  unfold heldB
  rw [List.any_eq_true]
theorem keepB_iff {cs : List (List Int)} {one : List Int} : keepB cs one = true ↔ ∀ o ∈ cs, o ≠ one → divB o one = false := by
  unfold keepB
  rw [Bool.not_eq_true', List.any_eq_false]
  constructor
  · intro h o ho hne
    have := h o ho
    rw [Bool.and_eq_true, not_and, decide_eq_true_eq] at this
    simpa using this hne
  · intro h o ho
    rw [Bool.and_eq_true, not_and, decide_eq_true_eq]
    intro hne
    rw [h o ho hne]
    decide
theorem least_sub {ks : List (List Int)} {k : List Int} (h : k ∈ leastL ks) : k ∈ ks := mem_canon.mp (List.mem_filter.mp h).1
theorem least_below {c : Nat} {ks : List (List Int)} (h : Okc c ks) : ∀ (n : Nat) (k : List Int), sumN k ≤ n → k ∈ ks → ∃ m ∈ leastL ks, divB m k = true := by
  intro n
  induction n with
  | zero =>
    intro k hn hk
    refine ⟨k, List.mem_filter.mpr ⟨mem_canon.mpr hk, keepB_iff.mpr fun o ho hne => ?_⟩, divB_refl k⟩
    cases q : divB o k with
    | false => rfl
    | true =>
      have ho' := mem_canon.mp ho
      have := (sumN_lt (by rw [(h.r o ho').1, (h.r k hk).1]) (h.r o ho').2 q).2 hne
      omega
  | succ n ih =>
    intro k hn hk
    by_cases q : keepB (canon ks) k = true
    · exact ⟨k, List.mem_filter.mpr ⟨mem_canon.mpr hk, q⟩, divB_refl k⟩
    · have : ∃ o ∈ canon ks, o ≠ k ∧ divB o k = true := by
        have q' : ¬ ∀ o ∈ canon ks, o ≠ k → divB o k = false := fun z => q (keepB_iff.mpr z)
        exact Classical.byContradiction fun hn => q' fun o ho hne => by
          cases e : divB o k with
          | false => rfl
          | true => exact absurd ⟨o, ho, hne, e⟩ hn
      obtain ⟨o, ho, hne, hd⟩ := this
      have ho' := mem_canon.mp ho
      have hl : o.length = k.length := by rw [(h.r o ho').1, (h.r k hk).1]
      have hlt := (sumN_lt hl (h.r o ho').2 hd).2 hne
      obtain ⟨m, hm, hmd⟩ := ih o (by omega) ho'
      exact ⟨m, hm, divB_trans (by rw [(h.r m (least_sub hm)).1, (h.r o ho').1]) hl hmd hd⟩
theorem held_least {c : Nat} {ks : List (List Int)} (h : Okc c ks) {r : List Int} (hr : r.length = c) : heldB (leastL ks) r = heldB ks r := by
  rw [Bool.eq_iff_iff, heldB_iff, heldB_iff]
  constructor
  · rintro ⟨k, hk, hd⟩
    exact ⟨k, least_sub hk, hd⟩
  · rintro ⟨k, hk, hd⟩
    obtain ⟨m, hm, hmd⟩ := least_below h _ k (Nat.le_refl _) hk
    exact ⟨m, hm, divB_trans (by rw [(h.r m (least_sub hm)).1, (h.r k hk).1]) (by rw [(h.r k hk).1, hr]) hmd hd⟩
theorem asc_least (ks : List (List Int)) : Asc (leastL ks) := List.Pairwise.filter _ (asc_canon ks)
theorem least_idem (ks : List (List Int)) : leastL (leastL ks) = leastL ks := by
  have e : canon (leastL ks) = leastL ks := asc_uniq (asc_canon _) (asc_least ks) fun z => mem_canon
  show (canon (leastL ks)).filter (keepB (canon (leastL ks))) = _
  rw [e]
  refine List.filter_eq_self.mpr fun k hk => keepB_iff.mpr fun o ho hne => ?_
  exact keepB_iff.mp (List.mem_filter.mp hk).2 o (List.mem_filter.mp ho).1 hne
theorem max_div : ∀ {a b r : List Int}, a.length = b.length → b.length = r.length → divB (a.zipWith max b) r = (divB a r && divB b r)
  | [], [], [], _, _ => rfl
  | x :: a, y :: b, z :: r, h1, h2 => by
    rw [List.zipWith_cons_cons, divB_cons, divB_cons, divB_cons, max_div (by simpa using h1) (by simpa using h2)]
    have e : decide (max x y ≤ z) = (decide (x ≤ z) && decide (y ≤ z)) := by
      by_cases p : x ≤ z <;> by_cases q : y ≤ z <;> simp [p, q] <;> omega
    rw [e]
    cases decide (x ≤ z) <;> cases decide (y ≤ z) <;> cases divB a r <;> rfl
  | [], _ :: _, _, h, _ => by simp at h
  | _ :: _, [], _, h, _ => by simp at h
  | [], [], _ :: _, _, h => by simp at h
  | _ :: _, _ :: _, [], _, h => by simp at h
theorem held_prod {c : Nat} {one other : List (List Int)} {r : List Int} (h1 : ∀ k ∈ one, k.length = c) (h2 : ∀ k ∈ other, k.length = c) (hr : r.length = c) : heldB (prodL (fun a b => a.zipWith max b) one other) r = (heldB one r && heldB other r) := by
  rw [Bool.eq_iff_iff, Bool.and_eq_true, heldB_iff, heldB_iff, heldB_iff]
  constructor
  · rintro ⟨k, hk, hd⟩
    obtain ⟨a, ha, b, hb, rfl⟩ := mem_prodL.mp hk
    rw [max_div (by rw [h1 a ha, h2 b hb]) (by rw [h2 b hb, hr]), Bool.and_eq_true] at hd
    exact ⟨⟨a, ha, hd.1⟩, b, hb, hd.2⟩
  · rintro ⟨⟨a, ha, da⟩, b, hb, db⟩
    refine ⟨_, mem_prodL.mpr ⟨a, ha, b, hb, rfl⟩, ?_⟩
    rw [max_div (by rw [h1 a ha, h2 b hb]) (by rw [h2 b hb, hr]), da, db]
    rfl
theorem sub_div : ∀ {a s r : List Int}, a.length = s.length → s.length = r.length → (∀ i ∈ r, 0 ≤ i) → divB (subM a s) r = divB a (r.zipWith (· + ·) s)
  | [], [], [], _, _, _ => rfl
  | x :: a, y :: s, z :: r, h1, h2, hp => by
    have ih := sub_div (a := a) (s := s) (r := r) (by simpa using h1) (by simpa using h2) fun i hi => hp i (List.mem_cons_of_mem _ hi)
    have hz := hp z List.mem_cons_self
    show (decide (max (x - y) 0 ≤ z) && divB (subM a s) r) = (decide (x ≤ z + y) && divB a (r.zipWith (· + ·) s))
    rw [ih]
    congr 1
    by_cases p : x ≤ z + y <;> simp [p] <;> omega
  | [], _ :: _, _, h, _, _ => by simp at h
  | _ :: _, [], _, h, _, _ => by simp at h
  | [], [], _ :: _, _, h, _ => by simp at h
  | _ :: _, _ :: _, [], _, h, _ => by simp at h
theorem held_over {c : Nat} {ks : List (List Int)} {s r : List Int} (h1 : ∀ k ∈ ks, k.length = c) (hs : s.length = c) (hr : r.length = c) (hp : ∀ i ∈ r, 0 ≤ i) : heldB (overL ks s) r = heldB ks (r.zipWith (· + ·) s) := by
  unfold heldB overL
  rw [List.any_map]
  rw [Bool.eq_iff_iff, List.any_eq_true, List.any_eq_true]
  constructor
  · rintro ⟨k, hk, hd⟩
    exact ⟨k, hk, by rw [← sub_div (by rw [h1 k hk, hs]) (by rw [hs, hr]) hp]; exact hd⟩
  · rintro ⟨k, hk, hd⟩
    exact ⟨k, hk, by show divB (subM k s) r = true; rw [sub_div (by rw [h1 k hk, hs]) (by rw [hs, hr]) hp]; exact hd⟩
theorem rad_div : ∀ {a r : List Int}, a.length = r.length → (∀ i ∈ a, 0 ≤ i ∧ i < 4) → (∀ i ∈ r, 0 ≤ i) → divB (a.map fun x => min x 1) r = divB a (r.map fun x => 9 * x)
  | [], [], _, _, _ => rfl
  | [], _ :: _, h, _, _ => by simp at h
  | _ :: _, [], h, _, _ => by simp at h
  | x :: a, z :: r, h1, ha, hp => by
    have ih := rad_div (a := a) (r := r) (by simpa using h1) (fun i hi => ha i (List.mem_cons_of_mem _ hi)) fun i hi => hp i (List.mem_cons_of_mem _ hi)
    have hz := hp z List.mem_cons_self
    have hx := ha x List.mem_cons_self
    rw [List.map_cons, List.map_cons, divB_cons, divB_cons, ih]
    congr 1
    by_cases p : x ≤ 9 * z <;> simp [p] <;> omega
theorem held_rad {c : Nat} {ks : List (List Int)} {r : List Int} (h1 : ∀ k ∈ ks, k.length = c ∧ ∀ i ∈ k, 0 ≤ i ∧ i < 4) (hr : r.length = c) (hp : ∀ i ∈ r, 0 ≤ i) : heldB (radL ks) r = heldB ks (r.map fun x => 9 * x) := by
  unfold heldB radL
  rw [List.any_map]
  rw [Bool.eq_iff_iff, List.any_eq_true, List.any_eq_true]
  constructor
  · rintro ⟨k, hk, hd⟩
    exact ⟨k, hk, by rw [← rad_div (by rw [(h1 k hk).1, hr]) (h1 k hk).2 hp]; exact hd⟩
  · rintro ⟨k, hk, hd⟩
    exact ⟨k, hk, by show divB (k.map fun x => min x 1) r = true; rw [rad_div (by rw [(h1 k hk).1, hr]) (h1 k hk).2 hp]; exact hd⟩
/-! ## small lots: at most 12 rows of which none divides another -/
def chL : List Nat := [0, 0, 0, 0, 1, 1, 1, 0, 2, 2, 1, 0, 3, 2, 1, 0, 4, 4, 4, 4, 5, 5, 5, 5, 6, 6, 6, 5, 3, 2, 1, 0, 7, 7, 7, 4, 8, 8, 7, 4, 9, 8, 6, 5, 3, 2, 1, 0, 10, 10, 10, 10, 11, 11, 7, 4, 9, 8, 6, 5, 3, 2, 1, 0]
def ch3 (x y z : Nat) : Nat := chL.getD (x + 4 * y + 16 * z) 0
def le3 (a b : Nat × Nat × Nat) : Bool := decide (a.1 ≤ b.1) && (decide (a.2.1 ≤ b.2.1) && decide (a.2.2 ≤ b.2.2))
def all3 : List (Nat × Nat × Nat) := (List.range 4).flatMap fun x => (List.range 4).flatMap fun y => (List.range 4).map fun z => (x, y, z)
theorem ch_all : (all3.all fun a => decide (ch3 a.1 a.2.1 a.2.2 < 12) && all3.all fun b => !(ch3 a.1 a.2.1 a.2.2 == ch3 b.1 b.2.1 b.2.2) || (le3 a b || le3 b a)) = true := by decide +kernel
theorem mem3 {x y z : Nat} (hx : x < 4) (hy : y < 4) (hz : z < 4) : (x, y, z) ∈ all3 := by
  unfold all3
  simp only [List.mem_flatMap, List.mem_map, List.mem_range]
  exact ⟨x, hx, y, hy, z, hz, rfl⟩
theorem ch_lt {x y z : Nat} (hx : x < 4) (hy : y < 4) (hz : z < 4) : ch3 x y z < 12 := by
  have := List.all_eq_true.mp ch_all _ (mem3 hx hy hz)
  rw [Bool.and_eq_true] at this
  exact of_decide_eq_true this.1
theorem ch_cmp {x y z u v w : Nat} (hx : x < 4) (hy : y < 4) (hz : z < 4) (hu : u < 4) (hv : v < 4) (hw : w < 4) (h : ch3 x y z = ch3 u v w) : (x ≤ u ∧ y ≤ v ∧ z ≤ w) ∨ (u ≤ x ∧ v ≤ y ∧ w ≤ z) := by
  have h1 := List.all_eq_true.mp ch_all _ (mem3 hx hy hz)
  rw [Bool.and_eq_true] at h1
  have h2 := List.all_eq_true.mp h1.2 _ (mem3 hu hv hw)
  simp only [h, beq_self_eq_true, Bool.not_true, Bool.false_or, Bool.or_eq_true] at h2
  unfold le3 at h2
  simp only [Bool.and_eq_true, decide_eq_true_eq] at h2
  exact h2
def co (k : List Int) (i : Nat) : Nat := (k.getD i 0).toNat
def chK (k : List Int) : Nat := ch3 (co k 0) (co k 1) (co k 2)
structure Sm (c : Nat) (k : List Int) : Prop where
  l : k.length = c
  r : ∀ i ∈ k, 0 ≤ i ∧ i < 4
theorem co_lt {c : Nat} {k : List Int} (h : Sm c k) (i : Nat) : co k i < 4 := by
  unfold co
  rw [List.getD_eq_getElem?_getD]
  cases q : k[i]? with
  | none => decide
  | some x =>
    have := h.r x (List.mem_of_getElem? q)
    show x.toNat < 4
    omega
theorem div_co {c : Nat} (hc : c ≤ 3) {a b : List Int} (ha : Sm c a) (hb : Sm c b) (h : co a 0 ≤ co b 0 ∧ co a 1 ≤ co b 1 ∧ co a 2 ≤ co b 2) : divB a b = true := by
  have la := ha.l
  have lb := hb.l
  unfold divB
  rw [List.all_eq_true]
  rintro ⟨x, y⟩ hxy
  obtain ⟨i, hi⟩ := List.mem_iff_getElem?.mp hxy
  rw [List.getElem?_zip_eq_some] at hi
  have h1 := ha.r x (List.mem_of_getElem? hi.1)
  have h2 := hb.r y (List.mem_of_getElem? hi.2)
  have hil := (List.getElem?_eq_some_iff.mp hi.1).1
  have e1 : co a i = x.toNat := by unfold co; rw [List.getD_eq_getElem?_getD, hi.1]; rfl
  have e2 : co b i = y.toNat := by unfold co; rw [List.getD_eq_getElem?_getD, hi.2]; rfl
  have h3 : co a i ≤ co b i := by
    have : i = 0 ∨ i = 1 ∨ i = 2 := by omega
    rcases this with rfl | rfl | rfl
    · exact h.1
    · exact h.2.1
    · exact h.2.2
  rw [e1, e2] at h3
  exact decide_eq_true (by omega)
theorem nodup_of_pw {l : List (List Int)} (h : l.Pairwise fun a b => chK a ≠ chK b) : (l.map chK).Nodup := List.pairwise_map.mpr h
theorem least_12 {c : Nat} (hc : c ≤ 3) {ks : List (List Int)} (h : ∀ k ∈ ks, Sm c k) : (leastL ks).length ≤ 12 := by
  have hs : ∀ k ∈ leastL ks, Sm c k := fun k hk => h k (least_sub hk)
  have pw : (leastL ks).Pairwise fun a b => chK a ≠ chK b := by
    refine List.Pairwise.imp_of_mem (fun {a b} ha hb hlt e => ?_) (asc_least ks)
    have ne : a ≠ b := fun z => by rw [z, ltI_irr] at hlt; cases hlt
    have ka := keepB_iff.mp (List.mem_filter.mp ha).2
    have kb := keepB_iff.mp (List.mem_filter.mp hb).2
    have sa := hs a ha
    have sb := hs b hb
    rcases ch_cmp (co_lt sa 0) (co_lt sa 1) (co_lt sa 2) (co_lt sb 0) (co_lt sb 1) (co_lt sb 2) e with q | q
    · have := kb a (List.mem_filter.mp ha).1 ne
      rw [div_co hc sa sb q] at this
      cases this
    · have := ka b (List.mem_filter.mp hb).1 (Ne.symm ne)
      rw [div_co hc sb sa q] at this
      cases this
  have := L2.nat_nodup_len ((leastL ks).map chK) (List.range 12) (nodup_of_pw pw) fun x hx => by
    obtain ⟨k, hk, rfl⟩ := List.mem_map.mp hx
    have sk := hs k hk
    exact List.mem_range.mpr (ch_lt (co_lt sk 0) (co_lt sk 1) (co_lt sk 2))
  simpa using this
end Q30

set_option maxRecDepth 100000
set_option maxHeartbeats 4000000
namespace Q30
open PySem PySem.Spec Fw
open L2 (Key)
theorem Tp.app {st : Sto} (h : Tp st) (e : Sto) : Tp (st ++ e) := by
  obtain ⟨cells, seed, rest, rfl, h2⟩ := h
  exact ⟨cells, seed, rest ++ e, rfl, h2⟩
theorem zw_bd {f : Int → Int → Int} {P : Int → Prop} : ∀ {a b : List Int}, (∀ x ∈ a, ∀ y ∈ b, P (f x y)) → ∀ i ∈ a.zipWith f b, P i
  | [], _, _, i, hi => by simp at hi
  | _ :: _, [], _, i, hi => by simp at hi
  | x :: a, y :: b, h, i, hi => by
    rw [List.zipWith_cons_cons] at hi
    rcases List.mem_cons.mp hi with e | hi
    · rw [e]; exact h x List.mem_cons_self y List.mem_cons_self
    · exact zw_bd (fun x hx y hy => h x (List.mem_cons_of_mem _ hx) y (List.mem_cons_of_mem _ hy)) i hi
theorem okc_of {c : Nat} {ks : List (List Int)} (h1 : 1 ≤ c) (h3 : c ≤ 3) (hn : ks.length < 64) (h : ∀ k ∈ ks, Sm c k) : Okc c ks := ⟨h1, by omega, hn, fun k hk => ⟨(h k hk).l, fun i hi => ((h k hk).r i hi).1⟩⟩
theorem sm_max {c : Nat} {a b : List Int} (ha : Sm c a) (hb : Sm c b) : Sm c (a.zipWith max b) := ⟨by rw [List.length_zipWith, ha.l, hb.l, Nat.min_self], zw_bd fun x hx y hy => by
  have := ha.r x hx
  have := hb.r y hy
  omega⟩
theorem sm_sub {c : Nat} {a s : List Int} (ha : Sm c a) (hs : Sm c s) : Sm c (subM a s) := ⟨by unfold subM; rw [List.length_zipWith, ha.l, hs.l, Nat.min_self], zw_bd fun x hx y hy => by
  have := ha.r x hx
  have := hs.r y hy
  omega⟩
theorem sm_rad {c : Nat} {a : List Int} (ha : Sm c a) : Sm c (a.map fun x => min x 1) := ⟨by rw [List.length_map, ha.l], fun i hi => by
  obtain ⟨x, hx, rfl⟩ := List.mem_map.mp hi
  have := ha.r x hx
  omega⟩
theorem sm_prod {c : Nat} {one other : List (List Int)} (h1 : ∀ k ∈ one, Sm c k) (h2 : ∀ k ∈ other, Sm c k) : ∀ k ∈ prodL (fun a b => a.zipWith max b) one other, Sm c k := fun k hk => by
  obtain ⟨a, ha, b, hb, rfl⟩ := mem_prodL.mp hk
  exact sm_max (h1 a ha) (h2 b hb)
theorem sm_over {c : Nat} {ks : List (List Int)} {s : List Int} (h1 : ∀ k ∈ ks, Sm c k) (hs : Sm c s) : ∀ k ∈ overL ks s, Sm c k := fun k hk => by
  obtain ⟨a, ha, rfl⟩ := List.mem_map.mp hk
  exact sm_sub (h1 a ha) hs
theorem sm_radL {c : Nat} {ks : List (List Int)} (h1 : ∀ k ∈ ks, Sm c k) : ∀ k ∈ radL ks, Sm c k := fun k hk => by
  obtain ⟨a, ha, rfl⟩ := List.mem_map.mp hk
  exact sm_rad (h1 a ha)
theorem sm_least {c : Nat} {ks : List (List Int)} (h1 : ∀ k ∈ ks, Sm c k) : ∀ k ∈ leastL ks, Sm c k := fun k hk => h1 k (least_sub hk)
theorem least_len (ks : List (List Int)) : (leastL ks).length ≤ ks.length := Nat.le_trans (List.length_filter_le _ _) (canon_len ks)
theorem len_over (ks : List (List Int)) (s : List Int) : (overL ks s).length = ks.length := by unfold overL; rw [List.length_map]
theorem len_radL (ks : List (List Int)) : (radL ks).length = ks.length := by unfold radL; rw [List.length_map]
/-! ## over all -/
structure OA (c : Nat) (one F P : List (List Int)) : Prop where
  s : ∀ k ∈ F, Sm c k
  n : F.length ≤ 12
  h : ∀ r : List Int, r.length = c → (∀ i ∈ r, 0 ≤ i) → heldB F r = P.all fun o => heldB one (r.zipWith (· + ·) o)
theorem oa_loop {c : Nat} {one : List (List Int)} (c1 : 1 ≤ c) (c3 : c ≤ 3) (h1 : ∀ k ∈ one, Sm c k) (hn : one.length ≤ 4) {X1 X2 : Option D} : ∀ (os F P : List (List Int)) (o4 : Option D) (st : Sto), (∀ o ∈ os, Sm c o) → OA c one F P →
    ∃ (F' : List (List Int)) (o4' : Option D) (e : Sto), forL (.nm 4) (sSeq (sAsg (.nm 3) (mCall (aCons (mVar 3) (aCons (mCall (aCons (mVar 0) (aCons (mVar 4) (aNil))) (sized 2 φ_over)) (aNil))) (sized 2 φ_shared))) (sNil)) (os.map fun o => .p (tupI o)) [some (.p (.tuple (Rw one))), X1, X2, some (.p (.tuple (Rw F))), o4] st
      = .nx [some (.p (.tuple (Rw one))), X1, X2, some (.p (.tuple (Rw F'))), o4'] (st ++ e) ∧ OA c one F' (P ++ os)
  | [], F, P, o4, st, _, hF => ⟨F, o4, [], by rw [List.append_nil]; rfl, by rw [List.append_nil]; exact hF⟩
  | o :: os, F, P, o4, st, ho, hF => by
    have so := ho o List.mem_cons_self
    have ok1 := okc_of c1 c3 (by omega) h1
    have ok2 : Okc c (overL one o) := okc_of c1 c3 (by rw [len_over]; omega) (sm_over h1 so)
    have sv := sm_least (sm_over h1 so)
    have lv : (leastL (overL one o)).length ≤ 4 := Nat.le_trans (least_len _) (by rw [len_over]; exact hn)
    have okF := okc_of c1 c3 (by have := hF.n; omega) hF.s
    have okV : Okc c (leastL (overL one o)) := ok2.least
    have lp : (prodL (fun a b => a.zipWith max b) F (leastL (overL one o))).length < 64 := by
      rw [len_prodL]
      have := Nat.mul_le_mul hF.n lv
      omega
    have sp := sm_prod hF.s sv
    have okP := okc_of c1 c3 lp sp
    have e1 := e_over (s := o) ok1 ok2 st
    have e2 := e_shared okF okV okP (st ++ [.set (overL one o)])
    have hF' : OA c one (leastL (prodL (fun a b => a.zipWith max b) F (leastL (overL one o)))) (P ++ [o]) := ⟨sm_least sp, least_12 c3 sp, fun r hr hp => by
      rw [held_least okP hr, held_prod (fun k hk => (hF.s k hk).l) (fun k hk => (sv k hk).l) hr, hF.h r hr hp, held_least ok2 hr, held_over (fun k hk => (h1 k hk).l) so.l hr hp, List.all_append]
      simp⟩
    obtain ⟨F', o4', e, g1, g2⟩ := oa_loop c1 c3 h1 hn (X1 := X1) (X2 := X2) os _ (P ++ [o]) (some (.p (tupI o))) (st ++ [.set (overL one o)] ++ [.set (prodL (fun a b => a.zipWith max b) F (leastL (overL one o)))]) (fun z hz => ho z (List.mem_cons_of_mem _ hz)) hF'
    refine ⟨F', o4', [.set (overL one o)] ++ [.set (prodL (fun a b => a.zipWith max b) F (leastL (overL one o)))] ++ e, ?_, by rw [show P ++ o :: os = P ++ [o] ++ os by simp]; exact g2⟩
    have hb : sSeq (sAsg (.nm 3) (mCall (aCons (mVar 3) (aCons (mCall (aCons (mVar 0) (aCons (mVar 4) (aNil))) (sized 2 φ_over)) (aNil))) (sized 2 φ_shared))) (sNil) [some (.p (.tuple (Rw one))), X1, X2, some (.p (.tuple (Rw F))), some (.p (tupI o))] st = .nx [some (.p (.tuple (Rw one))), X1, X2, some (.p (.tuple (Rw (leastL (prodL (fun a b => a.zipWith max b) F (leastL (overL one o))))))), some (.p (tupI o))] (st ++ [.set (overL one o)] ++ [.set (prodL (fun a b => a.zipWith max b) F (leastL (overL one o)))]) :=
      e_nx (e_set (e_call (e_cons rfl (e_cons (e_call (e_cons rfl (e_cons rfl e_nil)) rfl e1) e_nil)) rfl e2) rfl) rfl
    rw [List.map_cons]
    unfold forL
    show (match sSeq (sAsg (.nm 3) _) sNil [some (.p (.tuple (Rw one))), X1, X2, some (.p (.tuple (Rw F))), some (.p (tupI o))] st with
      | .nx env' st' => _
      | .cnt env' st' => _
      | .brk env' st' => _
      | r => _) = _
    rw [hb]
    simp only
    rw [g1]
    congr 1
    simp [List.append_assoc]
theorem held_zero : ∀ {c : Nat} {r : List Int}, r.length = c → (∀ i ∈ r, 0 ≤ i) → divB (List.replicate c 0) r = true
  | 0, [], _, _ => rfl
  | 0, _ :: _, h, _ => by simp at h
  | _ + 1, [], h, _ => by simp at h
  | c + 1, x :: r, h, hp => by
    rw [List.replicate_succ, divB_cons, held_zero (by simpa using h) fun i hi => hp i (List.mem_cons_of_mem _ hi)]
    have := hp x List.mem_cons_self
    simp [this]
theorem e_overall {c : Nat} {one other : List (List Int)} (c1 : 1 ≤ c) (c3 : c ≤ 3) (h1 : ∀ k ∈ one, Sm c k) (hn : one.length ≤ 4) (h2 : ∀ k ∈ other, Sm c k) (st : Sto) :
    ∃ (F : List (List Int)) (e : Sto), φ_over_all [.p (.tuple (Rw one)), .p (.tuple (Rw other)), .p (.int c)] st = .ok (.p (.tuple (Rw F))) (st ++ e) ∧ OA c one F other := by
  have hF : OA c one [List.replicate c 0] [] := ⟨fun k hk => by
    rw [List.mem_singleton.mp hk]
    exact ⟨by simp, fun i hi => by rw [(List.mem_replicate.mp hi).2]; decide⟩, by simp, fun r hr hp => by
    unfold heldB
    rw [List.any_cons, held_zero hr hp]
    rfl⟩
  obtain ⟨F, o4, e, g1, g2⟩ := oa_loop c1 c3 h1 hn (X1 := some (.p (.tuple (Rw other)))) (X2 := some (.p (.int c))) other _ [] none st h2 hF
  refine ⟨F, e, ?_, by simpa using g2⟩
  have hu := e_unit c st (by omega)
  have s1 : sAsg (.nm 3) (mL (aCons (mCall (aCons (mVar 2) (aNil)) (sized 1 φ_unit)) (aNil)) gTupD) [some (.p (.tuple (Rw one))), some (.p (.tuple (Rw other))), some (.p (.int c)), none, none] st = .nx [some (.p (.tuple (Rw one))), some (.p (.tuple (Rw other))), some (.p (.int c)), some (.p (.tuple (Rw [List.replicate c 0]))), none] st :=
    e_set (e_mL (e_cons (e_call (e_cons rfl e_nil) rfl hu) e_nil) (r := .ok (.p (.tuple (Rw [List.replicate c 0]))) st) rfl) rfl
  exact e_fn (e_nx s1 (e_nx ((e_for (src_rows (ks := other) rfl)).trans g1) (e_ret rfl)))
/-! ## the sums' dict -/
theorem set_last {st : Sto} {a b : Ob} : (st ++ [a]).set st.length b = st ++ [b] := by
  rw [List.set_append_right _ _ (Nat.le_refl _)]
  simp
theorem putD_last {st : Sto} {kvs : List (List Key × PyData)} {k : List Int} (hk : k ≠ []) (hl : kvs.length ≤ 1000000) : putD (.loc st.length) (.p (tupI k)) (.p (.bool true)) (st ++ [.dT kvs]) = some (st ++ [.dT (putX kvs (keyI k) (.bool true))]) := by
  unfold putD
  simp only [get_last, asTI_tupI]
  rw [if_pos ⟨hk, hl⟩, set_last]
theorem e_putd {mo mi me : Env' → M D} {env : Env'} {st st2 : Sto} {v o i : D} (h1 : me env st = .ok v st) (h2 : mo env st = .ok o st) (h3 : mi env st = .ok i st) (h4 : putD o i v st = some st2) : sPutD mo mi me env st = .nx env st2 := by
  unfold sPutD sbnd
  rw [bnd_ok h1, bnd_ok h2, bnd_ok h3]
  simp only [h4]
theorem keys_len {kvs : List (List Key × PyData)} {ks : List (List Int)} (h : kvs.map (·.1) = ks.map keyI) : kvs.length = ks.length := by
  have := congrArg List.length h
  simpa using this
/-- one row of sums -/
theorem sum_in {a : List Int} {c : Nat} (ha : a.length = c) (c1 : 1 ≤ c) (c3 : c ≤ 3) {E : Option D → Env'} {st : Sto}
    (h9 : ∀ (o : Option D) (st' : Sto), mVar 9 (E o) st' = .ok (.loc st.length) st') (h10 : ∀ (o : Option D) (st' : Sto), mVar 10 (E o) st' = .ok (.p (tupI a)) st') (h18 : ∀ (x : D) (st' : Sto), mVar 18 (E (some x)) st' = .ok x st') (hg : ∀ (o : Option D) (x : D), gSet (.nm 18) x (E o) = some (E (some x))) :
    ∀ (bs : List (List Int)) (kvs : List (List Key × PyData)) (ks : List (List Int)) (o : Option D), (∀ b ∈ bs, b.length = c) → kvs.map (·.1) = ks.map keyI → ks.length + bs.length ≤ 1000 →
    ∃ (kvs' : List (List Key × PyData)) (ks' : List (List Int)) (o' : Option D), forL (.nm 18) (sSeq (sPutD (mVar 9) (mCall (aCons (mVar 10) (aCons (mVar 18) (aNil))) (sized 2 φ__law_plus)) (mC (.bool true))) (sNil)) (bs.map fun b => .p (tupI b)) (E o) (st ++ [.dT kvs]) = .nx (E o') (st ++ [.dT kvs']) ∧
      kvs'.map (·.1) = ks'.map keyI ∧ (∀ z, z ∈ ks' ↔ z ∈ ks ∨ ∃ b ∈ bs, a.zipWith (· + ·) b = z) ∧ ks'.length ≤ ks.length + bs.length
  | [], kvs, ks, o, _, hk, _ => ⟨kvs, ks, o, rfl, hk, fun z => by simp, by simp⟩
  | b :: bs, kvs, ks, o, hb, hk, hl => by
    have lb := hb b List.mem_cons_self
    have hne : a.zipWith (· + ·) b ≠ [] := fun z => by
      have := congrArg List.length z
      rw [List.length_zipWith, ha, lb, Nat.min_self] at this
      simp at this
      omega
    have hput := putD_last (st := st) (kvs := kvs) hne (by rw [keys_len hk]; omega)
    have hk2 := putX_keys hk (a.zipWith (· + ·) b) (PyData.bool true)
    obtain ⟨kvs', ks', o', g1, g2, g3, g4⟩ := sum_in ha c1 c3 (E := E) h9 h10 h18 hg bs _ _ (some (.p (tupI b))) (fun z hz => hb z (List.mem_cons_of_mem _ hz)) hk2 (by split <;> simp at hl ⊢ <;> omega)
    refine ⟨kvs', ks', o', ?_, g2, fun z => ?_, ?_⟩
    · rw [List.map_cons]
      unfold forL
      rw [hg o (.p (tupI b))]
      have e1 : sSeq (sPutD (mVar 9) (mCall (aCons (mVar 10) (aCons (mVar 18) (aNil))) (sized 2 φ__law_plus)) (mC (.bool true))) (sNil) (E (some (.p (tupI b)))) (st ++ [.dT kvs]) = .nx (E (some (.p (tupI b)))) (st ++ [.dT (putX kvs (keyI (a.zipWith (· + ·) b)) (.bool true))]) :=
        e_nx (e_putd (v := .p (.bool true)) rfl (h9 _ _) (e_call (e_cons (h10 _ _) (e_cons (h18 _ _) e_nil)) rfl (e_plus a b _ (by omega))) hput) rfl
      simp only [e1]
      exact g1
    · rw [g3 z]
      by_cases m : a.zipWith (· + ·) b ∈ ks
      · rw [if_pos m]
        constructor
        · rintro (q | ⟨y, hy, e⟩)
          · exact .inl q
          · exact .inr ⟨y, List.mem_cons_of_mem _ hy, e⟩
        · rintro (q | ⟨y, hy, e⟩)
          · exact .inl q
          · rcases List.mem_cons.mp hy with w | hy
            · rw [w] at e; exact .inl (e ▸ m)
            · exact .inr ⟨y, hy, e⟩
      · rw [if_neg m, List.mem_append, List.mem_singleton]
        constructor
        · rintro ((q | q) | ⟨y, hy, e⟩)
          · exact .inl q
          · exact .inr ⟨b, List.mem_cons_self, q.symm⟩
          · exact .inr ⟨y, List.mem_cons_of_mem _ hy, e⟩
        · rintro (q | ⟨y, hy, e⟩)
          · exact .inl (.inl q)
          · rcases List.mem_cons.mp hy with w | hy
            · rw [w] at e; exact .inl (.inr e.symm)
            · exact .inr ⟨y, hy, e⟩
    · split at g4 <;> simp at g4 ⊢ <;> omega
/-! ## a drawn value that is none -/
theorem mul_rep (x : PyData) {k : Int} (h0 : 0 ≤ k) (h1 : k ≤ 1000) : mulP (.tuple [x]) (.int k) = some (.tuple (List.replicate k.toNat x)) := by
  show (if 0 ≤ k ∧ k ≤ 1000 ∧ [x].length ≤ 1000 ∧ [x] ≠ [] then some (PyData.tuple (List.replicate k.toNat [x]).flatten) else none) = _
  rw [if_pos ⟨h0, h1, by simp, by simp⟩]
  congr 2
  generalize k.toNat = n
  induction n with
  | zero => rfl
  | succ n ih => rw [List.replicate_succ, List.flatten_cons, ih, List.replicate_succ]; rfl
theorem add_tup {a b : List PyData} (h : a.length + b.length ≤ 1000) : addP (.tuple a) (.tuple b) = some (.tuple (a ++ b)) := by
  show (if a.length + b.length ≤ 1000000 then some (PyData.tuple (a ++ b)) else none) = _
  rw [if_pos (by omega)]
theorem rep_T (n : Nat) (i : Int) : (PyData.tuple (List.replicate n (.int i))) = tupI (List.replicate n i) := by
  unfold tupI
  rw [List.map_replicate]
theorem told_bad {c : Nat} {xs : List PyData} {x : PyData} (st : Sto) (h : xs.all vB = true) (hl : xs.length ≤ 1000) (hx : x ∈ xs) (hb : monB c x = false) : φ__law_told [.p (.tuple xs), .p (.int c)] st = .ok (.p (.str ("refused" : Str))) st := by
  refine told_exc _ _ _ ?_
  rw [ck_tup xs c st h hl, if_neg]
  rintro ⟨_, q⟩
  have := List.all_eq_true.mp q x hx
  rw [hb] at this
  cases this
theorem ib_ints (k : List Int) : (k.map PyData.int).all ib = true := List.all_eq_true.mpr fun x hx => by
  obtain ⟨i, _, rfl⟩ := List.mem_map.mp hx
  rfl
theorem vB_T {k : List Int} (h : k.length ≤ 1000) : vB (tupI k) = true := by
  show ((k.map PyData.int).all ib && decide ((k.map PyData.int).length ≤ 1000)) = true
  rw [ib_ints, Bool.true_and]
  exact decide_eq_true (by simpa using h)
theorem vB_rows {c : Nat} {ks : List (List Int)} (c3 : c ≤ 3) (h : ∀ k ∈ ks, Sm c k) : (Rw ks).all vB = true := List.all_eq_true.mpr fun x hx => by
  obtain ⟨k, hk, rfl⟩ := List.mem_map.mp hx
  exact vB_T (by rw [(h k hk).l]; omega)
theorem monB_T {c : Nat} {k : List Int} : monB c (tupI k) = (decide (k.length = c) && k.all fun i => decide (0 ≤ i)) := by
  show (decide (((k.map PyData.int).length : Int) = c) && (k.map PyData.int).all nnB) = _
  rw [List.all_map, List.length_map]
  congr 1
  by_cases q : k.length = c
  · rw [decide_eq_true q, decide_eq_true (by omega)]
  · rw [decide_eq_false q, decide_eq_false (by omega)]
end Q30

set_option maxRecDepth 100000
set_option maxHeartbeats 4000000
namespace Q30
open PySem PySem.Spec Fw
open L2 (Key)
def bothL (one other : List (List Int)) : List (List Int) := leastL (prodL (fun a b => a.zipWith max b) one other)
def prodP (one other : List (List Int)) : List (List Int) := leastL (prodL (fun a b => a.zipWith (· + ·) b) one other)
def partL (one : List (List Int)) (s : List Int) : List (List Int) := leastL (overL one s)
def rootL (one : List (List Int)) : List (List Int) := leastL (radL one)
structure Lot (c : Nat) (one other : List (List Int)) (s : List Int) : Prop where
  c1 : 1 ≤ c
  c3 : c ≤ 3
  n1 : one.length ≤ 4
  n2 : other.length ≤ 3
  h1 : ∀ k ∈ one, Sm c k
  h2 : ∀ k ∈ other, Sm c k
  hs : Sm c s
section
variable {c : Nat} {one other : List (List Int)} {s : List Int}
theorem Lot.o1 (h : Lot c one other s) : Okc c one := okc_of h.c1 h.c3 (by have := h.n1; omega) h.h1
theorem Lot.o2 (h : Lot c one other s) : Okc c other := okc_of h.c1 h.c3 (by have := h.n2; omega) h.h2
theorem mul12 {a b : Nat} (h1 : a ≤ 4) (h2 : b ≤ 3) : a * b < 64 := by
  have := Nat.mul_le_mul h1 h2
  omega
theorem Lot.oB (h : Lot c one other s) : Okc c (prodL (fun a b => a.zipWith max b) one other) := okc_of h.c1 h.c3 (by rw [len_prodL]; exact mul12 h.n1 h.n2) (sm_prod h.h1 h.h2)
theorem Lot.oP (h : Lot c one other s) : Okc c (prodL (fun a b => a.zipWith (· + ·) b) one other) := ⟨h.c1, by have := h.c3; omega, by rw [len_prodL]; exact mul12 h.n1 h.n2, fun k hk => by
  obtain ⟨a, ha, b, hb, rfl⟩ := mem_prodL.mp hk
  have s1 := h.h1 a ha
  have s2 := h.h2 b hb
  exact ⟨by rw [List.length_zipWith, s1.l, s2.l, Nat.min_self], zw_bd fun x hx y hy => by
    have := s1.r x hx
    have := s2.r y hy
    omega⟩⟩
theorem Lot.oV (h : Lot c one other s) : Okc c (overL one s) := okc_of h.c1 h.c3 (by rw [len_over]; have := h.n1; omega) (sm_over h.h1 h.hs)
theorem Lot.oR (h : Lot c one other s) : Okc c (radL one) := okc_of h.c1 h.c3 (by rw [len_radL]; have := h.n1; omega) (sm_radL h.h1)
end
theorem e_mIf {t : Env' → M Bool} {ma mb : Env' → M D} {env : Env'} {st st1 : Sto} {b : Bool} {r : Fw.R D} (h : t env st = .ok b st1) (h2 : (if b = true then ma env st1 else mb env st1) = r) : mIf t ma mb env st = r := by
  unfold mIf
  rw [bnd_ok h]
  cases b <;> exact h2
theorem sg0 {x0 x2 x3 x4 x5 x6 x7 x8 x9 x10 x11 x12 x13 x14 x15 x16 x17 x18 x19 x20 x21 : Option D} {st : Sto} (h : Tp st) : ∃ (c : Nat) (st1 : Sto), q0 [x0, some (.loc 1), x2, x3, x4, x5, x6, x7, x8, x9, x10, x11, x12, x13, x14, x15, x16, x17, x18, x19, x20, x21] st = .nx [x0, some (.loc 1), x2, some (.p (.int (c : Int))), x4, x5, x6, x7, x8, x9, x10, x11, x12, x13, x14, x15, x16, x17, x18, x19, x20, x21] st1 ∧ 1 ≤ c ∧ c ≤ 3 ∧ Tp st1 := by
  obtain ⟨r, st1, h1, h2, h3, h4⟩ := e_draw h (many := 3) (by decide) (by decide)
  refine ⟨(1 + r).toNat, st1, ?_, by omega, by omega, h4⟩
  have e : (((1 + r).toNat : Nat) : Int) = 1 + r := by omega
  rw [e]
  exact e_set (e_m2 (d := .p (.int 1)) (st1 := st) rfl (e_call (e_cons rfl (e_cons (d := .p (.int 3)) (st1 := st) rfl e_nil)) rfl h1) (l2 (k := 1) rfl rfl rfl)) rfl
theorem sg1 {x0 x2 x3 x4 x5 x6 x7 x8 x9 x10 x11 x12 x13 x14 x15 x16 x17 x18 x19 x20 x21 : Option D} {st : Sto} {c : Nat} (c3 : c ≤ 3) (h : Tp st) : ∃ (one other : List (List Int)) (st1 : Sto), q1 [x0, some (.loc 1), x2, some (.p (.int (c : Int))), x4, x5, x6, x7, x8, x9, x10, x11, x12, x13, x14, x15, x16, x17, x18, x19, x20, x21] st = .nx [x0, some (.loc 1), x2, some (.p (.int (c : Int))), x4, x5, x6, x7, x8, x9, x10, x11, some (.p (.tuple (Rw one))), some (.p (.tuple (Rw other))), x14, x15, x16, x17, x18, x19, x20, x21] st1 ∧ one.length ≤ 4 ∧ other.length ≤ 3 ∧ (∀ k ∈ one, Sm c k) ∧ (∀ k ∈ other, Sm c k) ∧ Tp st1 := by
  obtain ⟨r1, st1, a1, a2, a3, a4⟩ := e_draw h (many := 5) (by decide) (by decide)
  obtain ⟨one, st2, b1, b2, b3, b4⟩ := e_mono a4 (c := c) (n := r1.toNat) (by omega) (by omega)
  obtain ⟨r2, st3, d1, d2, d3, d4⟩ := e_draw b4 (many := 4) (by decide) (by decide)
  obtain ⟨other, st4, f1, f2, f3, f4⟩ := e_mono d4 (c := c) (n := r2.toNat) (by omega) (by omega)
  have e1 : ((r1.toNat : Nat) : Int) = r1 := by omega
  have e2 : ((r2.toNat : Nat) : Int) = r2 := by omega
  rw [e1] at b1
  rw [e2] at f1
  refine ⟨one, other, st4, ?_, by omega, by omega, fun k hk => ⟨(b3 k hk).1, (b3 k hk).2⟩, fun k hk => ⟨(f3 k hk).1, (f3 k hk).2⟩, f4⟩
  refine e_set (e_mL (e_cons (e_call (e_cons rfl (e_cons rfl (e_cons (d := .p (.int 3)) (st1 := st) rfl (e_cons (e_call (e_cons rfl (e_cons (d := .p (.int 5)) (st1 := st) rfl e_nil)) rfl a1) e_nil)))) rfl b1) (e_cons (e_call (e_cons rfl (e_cons rfl (e_cons (d := .p (.int 3)) (st1 := st2) rfl (e_cons (e_call (e_cons rfl (e_cons (d := .p (.int 4)) (st1 := st2) rfl e_nil)) rfl d1) e_nil)))) rfl f1) e_nil)) (r := .ok (.p (.tuple [.tuple (Rw one), .tuple (Rw other)])) st4) rfl) rfl
theorem sg2 {x0 x2 x3 x4 x5 x6 x7 x8 x9 x10 x11 x12 x13 x14 x15 x16 x17 x18 x19 x20 x21 : Option D} {st : Sto} {c : Nat} {one other : List (List Int)} (c3 : c ≤ 3) (h : Tp st) : ∃ (s : List Int) (st1 : Sto), q2 [x0, some (.loc 1), x2, some (.p (.int (c : Int))), x4, x5, x6, x7, x8, x9, x10, x11, some (.p (.tuple (Rw one))), some (.p (.tuple (Rw other))), x14, x15, x16, x17, x18, x19, x20, x21] st = .nx [x0, some (.loc 1), x2, some (.p (.int (c : Int))), some (.p (tupI s)), x5, x6, x7, x8, x9, x10, x11, some (.p (.tuple (Rw one))), some (.p (.tuple (Rw other))), x14, x15, x16, x17, x18, x19, x20, x21] st1 ∧ Sm c s ∧ Tp st1 := by
  obtain ⟨s, st1, h1, h2, h3, h4⟩ := e_step (c := c) (env0 := []) (by omega) (env := [x0, some (.loc 1), x2, some (.p (.int (c : Int))), x4, x5, x6, x7, x8, x9, x10, x11, some (.p (.tuple (Rw one))), some (.p (.tuple (Rw other))), x14, x15, x16, x17, x18, x19, x20, x21]) h (i := 19) (a := 3) (b := 1) rfl (fun j st => ⟨_, rfl, rfl⟩)
  exact ⟨s, st1, e_set h1 rfl, ⟨h2, h3⟩, h4⟩
theorem sg3 {x0 x2 x3 x4 x5 x6 x7 x8 x9 x10 x11 x12 x13 x14 x15 x16 x17 x18 x19 x20 x21 : Option D} {st : Sto} {c : Nat} {one other : List (List Int)} {s : List Int} (c1 : 1 ≤ c) (c3 : c ≤ 3) : ∃ bx : List (List Int), q3 [x0, some (.loc 1), x2, some (.p (.int (c : Int))), some (.p (tupI s)), x5, x6, x7, x8, x9, x10, x11, some (.p (.tuple (Rw one))), some (.p (.tuple (Rw other))), x14, x15, x16, x17, x18, x19, x20, x21] st = .nx [x0, some (.loc 1), x2, some (.p (.int (c : Int))), some (.p (tupI s)), some (.p (.list (Rw bx))), x6, x7, x8, x9, x10, x11, some (.p (.tuple (Rw one))), some (.p (.tuple (Rw other))), x14, x15, x16, x17, x18, x19, x20, x21] st ∧ bx.length ≤ 1000 ∧ (∀ k ∈ bx, k.length = c ∧ ∀ i ∈ k, 0 ≤ i) ∧ (bx.all fun k => k.all fun i => decide (i ≤ 100)) = true := by
  have : c = 1 ∨ c = 2 ∨ c = 3 := by omega
  rcases this with rfl | rfl | rfl
  · exact ⟨boxL 1 6, e_set (e_call (e_cons rfl (e_cons (e_mIf (b := true) (e_tB (e_m2 rfl (e := .p (.int 3)) (st2 := st) rfl (l2 (k := 3) rfl rfl (ltP_i 1 3)))) (r := .ok (.p (.int 6)) st) rfl) e_nil)) rfl (box_1 st)) rfl, by decide +kernel, fun k hk => box_mem hk, by decide +kernel⟩
  · exact ⟨boxL 2 6, e_set (e_call (e_cons rfl (e_cons (e_mIf (b := true) (e_tB (e_m2 rfl (e := .p (.int 3)) (st2 := st) rfl (l2 (k := 3) rfl rfl (ltP_i 2 3)))) (r := .ok (.p (.int 6)) st) rfl) e_nil)) rfl (box_2 st)) rfl, by decide +kernel, fun k hk => box_mem hk, by decide +kernel⟩
  · exact ⟨boxL 3 4, e_set (e_call (e_cons rfl (e_cons (e_mIf (b := false) (e_tB (e_m2 rfl (e := .p (.int 3)) (st2 := st) rfl (l2 (k := 3) rfl rfl (ltP_i 3 3)))) (r := .ok (.p (.int 4)) st) rfl) e_nil)) rfl (box_3 st)) rfl, by decide +kernel, fun k hk => box_mem hk, by decide +kernel⟩
theorem sg4 {x0 x2 x3 x4 x5 x6 x7 x8 x9 x10 x11 x12 x13 x14 x15 x16 x17 x18 x19 x20 x21 : Option D} {st : Sto} {c : Nat} {one other bx : List (List Int)} {s : List Int} (L : Lot c one other s) (hb : bx.length ≤ 1000) (hr : ∀ k ∈ bx, k.length = c ∧ ∀ i ∈ k, 0 ≤ i) : ∃ e : Sto, q4 [x0, some (.loc 1), x2, some (.p (.int (c : Int))), some (.p (tupI s)), some (.p (.list (Rw bx))), x6, x7, x8, x9, x10, x11, some (.p (.tuple (Rw one))), some (.p (.tuple (Rw other))), x14, x15, x16, x17, x18, x19, x20, x21] st = .nx [x0, some (.loc 1), x2, some (.p (.int (c : Int))), some (.p (tupI s)), some (.p (.list (Rw bx))), x6, x7, x8, x9, x10, x11, some (.p (.tuple (Rw one))), some (.p (.tuple (Rw other))), x14, x15, x16, x17, x18, x19, x20, x21] (st ++ e) := by
  obtain ⟨e2, h2⟩ := e_lleast L.o1 (st ++ [.set one])
  have h1 := e_least L.o1 st (x := .tuple (Rw one)) fun _ => rfl
  have n1 := L.n1
  have nl : (leastL one).length ≤ 4 := Nat.le_trans (least_len one) n1
  have sl := sm_least L.h1
  have hsame : φ__law_same 9 [.p (.tuple (Rw (leastL one))), .p (.tuple (Rw (leastL one)))] (st ++ [.set one] ++ e2) = .ok (.p (.bool true)) (st ++ [.set one] ++ e2) := by
    refine same_t 8 _ _ (by simp; omega) fun y hy => ?_
    obtain ⟨k, hk, rfl⟩ := List.mem_map.mp hy
    refine same_t 7 _ _ (by have := (sl k hk).l; have := L.c3; simp; omega) fun z hz => ?_
    obtain ⟨i, _, rfl⟩ := List.mem_map.mp hz
    exact same_i 6 i _
  have hl := L.o1.len
  refine ⟨[.set one] ++ e2, ?_⟩
  rw [← List.append_assoc]
  refine e_if (k := false) (e_orF (e_tNt (b := true) (e_tV (e_call (e_cons (e_call (e_cons rfl e_nil) rfl h1) (e_cons (e_call (e_cons rfl e_nil) rfl h2) e_nil)) rfl hsame))) ?_) (by rw [if_neg Bool.false_ne_true]; rfl)
  have ha := all_end (h := fun _ : List Int => true) (m := mCompV false 5 (.nm 8) [8] (tTr) (m2 (mCall (aCons (mVar 12) (aCons (mVar 8) (aNil))) (sized 2 φ_holds)) (mCall (aCons (mVar 12) (aCons (mVar 8) (aNil))) (sized 2 φ__law_held)) (lift2 3 eqP))) (env := [x0, some (.loc 1), x2, some (.p (.int (c : Int))), some (.p (tupI s)), some (.p (.list (Rw bx))), x6, x7, x8, x9, x10, x11, some (.p (.tuple (Rw one))), some (.p (.tuple (Rw other))), x14, x15, x16, x17, x18, x19, x20, x21]) (st := st ++ [.set one] ++ e2) (st1 := st ++ [.set one] ++ e2) (xs := bx) ((compV_p rfl).trans (comp_all (h := fun _ => .bool true) (src_rowsL rfl) (by omega) fun k hk => turn1 rfl (e_m2 (e_call (e_cons rfl (e_cons rfl e_nil)) rfl (e_holds one k _ (by omega) hl)) (e_call (e_cons rfl (e_cons rfl e_nil)) rfl (e_held one k _ (by omega) hl)) (l2 (k := 3) rfl rfl (by rw [eqP_b]; simp)))))
  rw [List.all_eq_true.mpr (fun _ _ => rfl)] at ha
  exact e_tNt (b := true) (e_tV ha)
theorem sg5 {x0 x2 x3 x4 x5 x6 x7 x8 x9 x10 x11 x12 x13 x14 x15 x16 x17 x18 x19 x20 x21 : Option D} {st : Sto} {c : Nat} {one other bx : List (List Int)} {s : List Int} (L : Lot c one other s) : ∃ e : Sto, q5 [x0, some (.loc 1), x2, some (.p (.int (c : Int))), some (.p (tupI s)), some (.p (.list (Rw bx))), x6, x7, x8, x9, x10, x11, some (.p (.tuple (Rw one))), some (.p (.tuple (Rw other))), x14, x15, x16, x17, x18, x19, x20, x21] st = .nx [x0, some (.loc 1), x2, some (.p (.int (c : Int))), some (.p (tupI s)), some (.p (.list (Rw bx))), x6, x7, x8, x9, x10, x11, some (.p (.tuple (Rw one))), some (.p (.tuple (Rw other))), some (.p (.tuple (Rw (bothL one other)))), some (.p (.tuple (Rw (prodP one other)))), some (.p (.tuple (Rw (partL one s)))), some (.p (.tuple (Rw (rootL one)))), x18, x19, x20, x21] (st ++ e) := by
  have h1 := e_shared L.o1 L.o2 L.oB st
  have h2 := e_multiplied L.o1 L.o2 L.oP (st ++ [.set (prodL (fun a b => a.zipWith max b) one other)])
  have h3 := e_over L.o1 L.oV (st ++ [.set (prodL (fun a b => a.zipWith max b) one other)] ++ [.set (prodL (fun a b => a.zipWith (· + ·) b) one other)])
  have h4 := e_radical L.o1 L.oR (st ++ [.set (prodL (fun a b => a.zipWith max b) one other)] ++ [.set (prodL (fun a b => a.zipWith (· + ·) b) one other)] ++ [.set (overL one s)])
  refine ⟨[.set (prodL (fun a b => a.zipWith max b) one other)] ++ [.set (prodL (fun a b => a.zipWith (· + ·) b) one other)] ++ [.set (overL one s)] ++ [.set (radL one)], ?_⟩
  rw [← List.append_assoc, ← List.append_assoc, ← List.append_assoc]
  exact e_set (e_mL (e_cons (e_call (e_cons rfl (e_cons rfl e_nil)) rfl h1) (e_cons (e_call (e_cons rfl (e_cons rfl e_nil)) rfl h2) (e_cons (e_call (e_cons rfl (e_cons rfl e_nil)) rfl h3) (e_cons (e_call (e_cons rfl e_nil) rfl h4) e_nil)))) (r := .ok (.p (.tuple [.tuple (Rw (bothL one other)), .tuple (Rw (prodP one other)), .tuple (Rw (partL one s)), .tuple (Rw (rootL one))])) _) rfl) rfl
theorem for_inv {α : Type} {g : G} {b : MS} {E : Option D → Env'} {S : Sto → Prop} {e : α → D} (hg : ∀ (o : Option D) (x : D), gSet g x (E o) = some (E (some x))) : ∀ xs : List α, (∀ x ∈ xs, ∀ st, S st → ∃ st1, b (E (some (e x))) st = .nx (E (some (e x))) st1 ∧ S st1) → ∀ o st, S st → ∃ o1 st1, forL g b (xs.map e) (E o) st = .nx (E o1) st1 ∧ S st1
  | [], _, o, st, hs => ⟨o, st, rfl, hs⟩
  | x :: xs, h, o, st, hs => by
    obtain ⟨st1, h1, h2⟩ := h x List.mem_cons_self st hs
    obtain ⟨o2, st2, g1, g2⟩ := for_inv hg xs (fun y hy => h y (List.mem_cons_of_mem _ hy)) (some (e x)) st1 h2
    refine ⟨o2, st2, ?_, g2⟩
    rw [List.map_cons]
    unfold forL
    rw [hg o (e x)]
    simp only [h1]
    exact g1
theorem sg6 {x0 x2 x3 x4 x5 x6 x7 x8 x9 x10 x11 x12 x13 x14 x15 x16 x17 x18 x19 x20 x21 : Option D} {st : Sto} {c : Nat} {one other bx : List (List Int)} {s : List Int} (L : Lot c one other s) (h : Tp st) : ∃ (o6 : Option D) (st1 : Sto), q6 [x0, some (.loc 1), x2, some (.p (.int (c : Int))), some (.p (tupI s)), some (.p (.list (Rw bx))), x6, x7, x8, x9, x10, x11, some (.p (.tuple (Rw one))), some (.p (.tuple (Rw other))), some (.p (.tuple (Rw (bothL one other)))), some (.p (.tuple (Rw (prodP one other)))), some (.p (.tuple (Rw (partL one s)))), some (.p (.tuple (Rw (rootL one)))), x18, x19, x20, x21] st = .nx [x0, some (.loc 1), x2, some (.p (.int (c : Int))), some (.p (tupI s)), some (.p (.list (Rw bx))), o6, x7, x8, x9, x10, x11, some (.p (.tuple (Rw one))), some (.p (.tuple (Rw other))), some (.p (.tuple (Rw (bothL one other)))), some (.p (.tuple (Rw (prodP one other)))), some (.p (.tuple (Rw (partL one s)))), some (.p (.tuple (Rw (rootL one)))), x18, x19, x20, x21] st1 ∧ Tp st1 := by
  have src : iSeq (mL (aCons (mVar 14) (aCons (mVar 15) (aCons (mVar 16) (aCons (mVar 17) (aNil))))) gLstD) [x0, some (.loc 1), x2, some (.p (.int (c : Int))), some (.p (tupI s)), some (.p (.list (Rw bx))), x6, x7, x8, x9, x10, x11, some (.p (.tuple (Rw one))), some (.p (.tuple (Rw other))), some (.p (.tuple (Rw (bothL one other)))), some (.p (.tuple (Rw (prodP one other)))), some (.p (.tuple (Rw (partL one s)))), some (.p (.tuple (Rw (rootL one)))), x18, x19, x20, x21] st = .ok (.fix ([bothL one other, prodP one other, partL one s, rootL one].map fun k => .p (.tuple (Rw k)))) st := rfl
  have ok : ∀ k ∈ [bothL one other, prodP one other, partL one s, rootL one], Okc c k ∧ leastL k = k := fun k hk => by
    simp only [List.mem_cons, List.not_mem_nil, or_false] at hk
    rcases hk with rfl | rfl | rfl | rfl
    · exact ⟨L.oB.least, least_idem _⟩
    · exact ⟨L.oP.least, least_idem _⟩
    · exact ⟨L.oV.least, least_idem _⟩
    · exact ⟨L.oR.least, least_idem _⟩
  obtain ⟨o1, st1, h1, h2⟩ := for_inv (E := fun o6 => [x0, some (.loc 1), x2, some (.p (.int (c : Int))), some (.p (tupI s)), some (.p (.list (Rw bx))), o6, x7, x8, x9, x10, x11, some (.p (.tuple (Rw one))), some (.p (.tuple (Rw other))), some (.p (.tuple (Rw (bothL one other)))), some (.p (.tuple (Rw (prodP one other)))), some (.p (.tuple (Rw (partL one s)))), some (.p (.tuple (Rw (rootL one)))), x18, x19, x20, x21]) (S := Tp) (g := .nm 6) (e := fun k => .p (.tuple (Rw k))) (b := sSeq (sIf (tOrr (tNt (tV (m1 (mVar 6) (lift1 3 (isiP .tup))))) (tB (m2 (mVar 6) (mCall (aCons (mVar 6) (aNil)) (sized 1 φ__law_least)) (lift2 3 neP)))) (sSeq (sRet (mC (.bool false))) (sNil)) (sNil)) (sNil)) (fun _ _ => rfl) [bothL one other, prodP one other, partL one s, rootL one] (fun k hk st hst => by
    obtain ⟨q1, q2⟩ := ok k hk
    obtain ⟨e, he⟩ := e_lleast q1 st
    rw [q2] at he
    refine ⟨st ++ e, e_nx (e_if (k := false) (e_orF (e_tNt (b := true) (e_tV (isi rfl rfl))) (e_tB (e_m2 rfl (e_call (e_cons rfl e_nil) rfl he) (l2 (k := 3) rfl rfl (by rw [neP_R]; simp))))) (by rw [if_neg Bool.false_ne_true]; rfl)) rfl, hst.app e⟩) x6 st h
  exact ⟨o1, st1, (e_for src).trans h1, h2⟩
theorem sg7 {x0 x2 x3 x4 x5 x6 x7 x8 x9 x10 x11 x12 x13 x14 x15 x16 x17 x18 x19 x20 x21 : Option D} {st : Sto} {c : Nat} {one other bx : List (List Int)} {s : List Int} (L : Lot c one other s) : ∃ (F : List (List Int)) (e : Sto), q7 [x0, some (.loc 1), x2, some (.p (.int (c : Int))), some (.p (tupI s)), some (.p (.list (Rw bx))), x6, x7, x8, x9, x10, x11, some (.p (.tuple (Rw one))), some (.p (.tuple (Rw other))), some (.p (.tuple (Rw (bothL one other)))), some (.p (.tuple (Rw (prodP one other)))), some (.p (.tuple (Rw (partL one s)))), some (.p (.tuple (Rw (rootL one)))), x18, x19, x20, x21] st = .nx [x0, some (.loc 1), x2, some (.p (.int (c : Int))), some (.p (tupI s)), some (.p (.list (Rw bx))), x6, some (.p (.tuple (Rw F))), x8, x9, x10, x11, some (.p (.tuple (Rw one))), some (.p (.tuple (Rw other))), some (.p (.tuple (Rw (bothL one other)))), some (.p (.tuple (Rw (prodP one other)))), some (.p (.tuple (Rw (partL one s)))), some (.p (.tuple (Rw (rootL one)))), x18, x19, x20, x21] (st ++ e) ∧ OA c one F other := by
  obtain ⟨F, e, h1, h2⟩ := e_overall L.c1 L.c3 L.h1 L.n1 L.h2 st
  exact ⟨F, e, e_set (e_call (e_cons rfl (e_cons rfl (e_cons rfl e_nil))) rfl h1) rfl, h2⟩
end Q30

set_option maxRecDepth 100000
set_option maxHeartbeats 4000000
namespace Q30
open PySem PySem.Spec Fw
open L2 (Key)
theorem sg8 {x0 x2 x3 x4 x5 x6 x7 x8 x9 x10 x11 x12 x13 x14 x15 x16 x17 x18 x19 x20 x21 : Option D} {st : Sto} {c : Nat} {one other bx : List (List Int)} {s : List Int} (L : Lot c one other s) (hb : bx.length ≤ 1000) (hr : ∀ k ∈ bx, k.length = c ∧ ∀ i ∈ k, 0 ≤ i) (hq : (bx.all fun k => k.all fun i => decide (i ≤ 100)) = true) {F : List (List Int)} (hF : OA c one F other) : ∃ o8 : Option D, q8 [x0, some (.loc 1), x2, some (.p (.int (c : Int))), some (.p (tupI s)), some (.p (.list (Rw bx))), x6, some (.p (.tuple (Rw F))), x8, x9, x10, x11, some (.p (.tuple (Rw one))), some (.p (.tuple (Rw other))), some (.p (.tuple (Rw (bothL one other)))), some (.p (.tuple (Rw (prodP one other)))), some (.p (.tuple (Rw (partL one s)))), some (.p (.tuple (Rw (rootL one)))), x18, x19, x20, x21] st = .nx [x0, some (.loc 1), x2, some (.p (.int (c : Int))), some (.p (tupI s)), some (.p (.list (Rw bx))), x6, some (.p (.tuple (Rw F))), o8, x9, x10, x11, some (.p (.tuple (Rw one))), some (.p (.tuple (Rw other))), some (.p (.tuple (Rw (bothL one other)))), some (.p (.tuple (Rw (prodP one other)))), some (.p (.tuple (Rw (partL one s)))), some (.p (.tuple (Rw (rootL one)))), x18, x19, x20, x21] st := by
  have l1 := L.o1.len
  have l2' := L.o2.len
  have n1 := L.n1
  have n2 := L.n2
  have c3 := L.c3
  have hz8 := L.hs.l
  have lenOf : ∀ {ks : List (List Int)}, Okc c ks → ks.length ≤ 1000 ∧ ∀ k ∈ ks, k.length ≤ 1000 := fun h => ⟨by have := h.n; omega, h.len⟩
  obtain ⟨bB1, bB2⟩ := lenOf L.oB.least
  obtain ⟨bV1, bV2⟩ := lenOf L.oV.least
  obtain ⟨bR1, bR2⟩ := lenOf L.oR.least
  have fl : ∀ k ∈ F, k.length ≤ 1000 := fun k hk => by rw [(hF.s k hk).l]; omega
  have fn := hF.n
  obtain ⟨o1, st1, h1, h2⟩ := for_inv (E := fun o8 => [x0, some (.loc 1), x2, some (.p (.int (c : Int))), some (.p (tupI s)), some (.p (.list (Rw bx))), x6, some (.p (.tuple (Rw F))), o8, x9, x10, x11, some (.p (.tuple (Rw one))), some (.p (.tuple (Rw other))), some (.p (.tuple (Rw (bothL one other)))), some (.p (.tuple (Rw (prodP one other)))), some (.p (.tuple (Rw (partL one s)))), some (.p (.tuple (Rw (rootL one)))), x18, x19, x20, x21]) (S := fun st1 => st1 = st) (g := .nm 8) (e := fun k => .p (tupI k)) (b := sSeq (sIf (tB (m2 (mCall (aCons (mVar 14) (aCons (mVar 8) (aNil))) (sized 2 φ__law_held)) (mAnd (mCall (aCons (mVar 12) (aCons (mVar 8) (aNil))) (sized 2 φ__law_held)) (mCall (aCons (mVar 13) (aCons (mVar 8) (aNil))) (sized 2 φ__law_held))) (lift2 3 neP))) (sSeq (sRet (mC (.bool false)))
      (sNil)) (sNil))
      (sSeq (sIf (tB (m2 (mCall (aCons (mVar 16) (aCons (mVar 8) (aNil))) (sized 2 φ__law_held)) (mCall (aCons (mVar 12) (aCons (mCall (aCons (mVar 8) (aCons (mVar 4) (aNil))) (sized 2 φ__law_plus)) (aNil))) (sized 2 φ__law_held)) (lift2 3 neP))) (sSeq (sRet (mC (.bool false)))
      (sNil)) (sNil))
      (sSeq (sIf (tB (m2 (mCall (aCons (mVar 7) (aCons (mVar 8) (aNil))) (sized 2 φ__law_held)) (mL (aCons (mCompV false 13 (.nm 20) [20] (tTr) (mCall (aCons (mVar 12) (aCons (mCall (aCons (mVar 8) (aCons (mVar 20) (aNil))) (sized 2 φ__law_plus)) (aNil))) (sized 2 φ__law_held))) (aNil)) (gL1 (lift1 1 allP))) (lift2 3 neP))) (sSeq (sRet (mC (.bool false)))
      (sNil)) (sNil))
      (sSeq (sIf (tB (m2 (mCall (aCons (mVar 17) (aCons (mVar 8) (aNil))) (sized 2 φ__law_held)) (mCall (aCons (mVar 12) (aCons (mL (aCons (mCompV false 8 (.nm 21) [21] (tTr) (m2 (mC (.int 9)) (mVar 21) (lift2 1 mulP))) (aNil)) (gL1 (lift1 1 tupP))) (aNil))) (sized 2 φ__law_held)) (lift2 3 neP))) (sSeq (sRet (mC (.bool false)))
      (sNil)) (sNil))
      (sNil))))) (fun _ _ => rfl) bx (fun r hrm st1 hst => by
    subst hst
    obtain ⟨r1, r2⟩ := hr r hrm
    have rl : r.length ≤ 1000 := by omega
    refine ⟨st1, ?_, rfl⟩
    refine e_nx (e_if (k := false) (e_tB (e_m2 (e_call (e_cons rfl (e_cons rfl e_nil)) rfl (e_held (bothL one other) r st1 bB1 bB2)) (e_andB (e_call (e_cons rfl (e_cons rfl e_nil)) rfl (e_held one r st1 (by omega) l1)) (e_call (e_cons rfl (e_cons rfl e_nil)) rfl (e_held other r st1 (by omega) l2'))) (l2 (k := 3) rfl rfl (by
      rw [neP_b, show heldB (bothL one other) r = (heldB one r && heldB other r) from (held_least L.oB r1).trans (held_prod (fun k hk => (L.h1 k hk).l) (fun k hk => (L.h2 k hk).l) r1)]
      simp)))) (by rw [if_neg Bool.false_ne_true]; rfl)) ?_
    refine e_nx (e_if (k := false) (e_tB (e_m2 (e_call (e_cons rfl (e_cons rfl e_nil)) rfl (e_held (partL one s) r st1 bV1 bV2)) (e_call (e_cons rfl (e_cons (e_call (e_cons rfl (e_cons rfl e_nil)) rfl (e_plus r s st1 rl)) e_nil)) rfl (e_held one _ st1 (by omega) l1)) (l2 (k := 3) rfl rfl (by
      rw [neP_b, show heldB (partL one s) r = heldB one (r.zipWith (· + ·) s) from (held_least L.oV r1).trans (held_over (fun k hk => (L.h1 k hk).l) L.hs.l r1 r2)]
      simp)))) (by rw [if_neg Bool.false_ne_true]; rfl)) ?_
    refine e_nx (e_if (k := false) (e_tB (e_m2 (e_call (e_cons rfl (e_cons rfl e_nil)) rfl (e_held F r st1 (by omega) fl)) (all_end (h := fun o : List Int => heldB one (r.zipWith (· + ·) o)) (xs := other) ((compV_p rfl).trans (comp_all (src_rows rfl) (by omega) fun o ho => turn1 rfl (e_call (e_cons rfl (e_cons (e_call (e_cons rfl (e_cons rfl e_nil)) rfl (e_plus r o st1 rl)) e_nil)) rfl (e_held one _ st1 (by omega) l1))))) (l2 (k := 3) rfl rfl (by
      rw [neP_b, hF.h r r1 r2]
      simp)))) (by rw [if_neg Bool.false_ne_true]; rfl)) ?_
    have nine : mL (aCons (mCompV false 8 (.nm 21) [21] (tTr) (m2 (mC (.int 9)) (mVar 21) (lift2 1 mulP))) (aNil)) (gL1 (lift1 1 tupP)) [x0, some (.loc 1), x2, some (.p (.int (c : Int))), some (.p (tupI s)), some (.p (.list (Rw bx))), x6, some (.p (.tuple (Rw F))), some (.p (tupI r)), x9, x10, x11, some (.p (.tuple (Rw one))), some (.p (.tuple (Rw other))), some (.p (.tuple (Rw (bothL one other)))), some (.p (.tuple (Rw (prodP one other)))), some (.p (.tuple (Rw (partL one s)))), some (.p (.tuple (Rw (rootL one)))), x18, x19, x20, x21] st1 = .ok (.p (tupI (r.map fun x => 9 * x))) st1 := by
      have rs : ∀ i ∈ r, i.natAbs < 2 ^ 40 := fun i hi => by
        have h1 := of_decide_eq_true (List.all_eq_true.mp (List.all_eq_true.mp hq r hrm) i hi)
        have h2 := r2 i hi
        omega
      have := comp_all (mi := iSeq (mVar 8)) (own := [21]) (g := .nm 21) (m := m2 (mC (.int 9)) (mVar 21) (lift2 1 mulP)) (env := [x0, some (.loc 1), x2, some (.p (.int (c : Int))), some (.p (tupI s)), some (.p (.list (Rw bx))), x6, some (.p (.tuple (Rw F))), some (.p (tupI r)), x9, x10, x11, some (.p (.tuple (Rw one))), some (.p (.tuple (Rw other))), some (.p (.tuple (Rw (bothL one other)))), some (.p (.tuple (Rw (prodP one other)))), some (.p (.tuple (Rw (partL one s)))), some (.p (.tuple (Rw (rootL one)))), x18, x19, x20, x21]) (st0 := st1) (st := st1) (xs := r) (e := .int) (h := fun x => .int (9 * x)) (by rw [iSeq_tup (xs := r.map .int) rfl, List.map_map]; rfl) (by omega) fun q hq2 => turn1 rfl (e_m2 (d := .p (.int 9)) (st1 := st1) rfl rfl (l2 (k := 1) rfl rfl (mulP_i (by decide) (rs q hq2))))
      have e2 : (r.map fun x => PyData.int (9 * x)) = (r.map fun x => 9 * x).map .int := by rw [List.map_map]; rfl
      rw [e2] at this
      exact tup_end ((compV_p rfl).trans this)
    exact e_nx (e_if (k := false) (e_tB (e_m2 (e_call (e_cons rfl (e_cons rfl e_nil)) rfl (e_held (rootL one) r st1 bR1 bR2)) (e_call (e_cons rfl (e_cons nine e_nil)) rfl (e_held one _ st1 (by omega) l1)) (l2 (k := 3) rfl rfl (by
      rw [neP_b, show heldB (rootL one) r = heldB one (r.map fun x => 9 * x) from (held_least L.oR r1).trans (held_rad (fun k hk => ⟨(L.h1 k hk).l, (L.h1 k hk).r⟩) r1 r2)]
      simp)))) (by rw [if_neg Bool.false_ne_true]; rfl)) rfl) x8 st rfl
  rw [h2] at h1
  exact ⟨o1, (e_for (src_rowsL rfl)).trans h1⟩
theorem sum_out {x0 x2 x6 x8 x11 x19 x20 x21 : Option D} {c : Nat} {one other bx F : List (List Int)} {s : List Int} {st : Sto} (c1 : 1 ≤ c) (c3 : c ≤ 3) (h2 : ∀ k ∈ other, k.length = c) (n2 : other.length ≤ 3) : ∀ (as : List (List Int)) (kvs : List (List Key × PyData)) (ks : List (List Int)) (o10 o18 : Option D), (∀ a ∈ as, a.length = c) → kvs.map (·.1) = ks.map keyI → ks.length + 3 * as.length ≤ 900 →
    ∃ (kvs1 : List (List Key × PyData)) (ks1 : List (List Int)) (p10 p18 : Option D), forL (.nm 10) (sSeq (sFor (iSeq (mVar 13)) (.nm 18) (sSeq (sPutD (mVar 9) (mCall (aCons (mVar 10) (aCons (mVar 18) (aNil))) (sized 2 φ__law_plus)) (mC (.bool true))) (sNil))) (sNil)) (as.map fun b => .p (tupI b)) [x0, some (.loc 1), x2, some (.p (.int (c : Int))), some (.p (tupI s)), some (.p (.list (Rw bx))), x6, some (.p (.tuple (Rw F))), x8, some (.loc st.length), o10, x11, some (.p (.tuple (Rw one))), some (.p (.tuple (Rw other))), some (.p (.tuple (Rw (bothL one other)))), some (.p (.tuple (Rw (prodP one other)))), some (.p (.tuple (Rw (partL one s)))), some (.p (.tuple (Rw (rootL one)))), o18, x19, x20, x21] (st ++ [.dT kvs]) = .nx [x0, some (.loc 1), x2, some (.p (.int (c : Int))), some (.p (tupI s)), some (.p (.list (Rw bx))), x6, some (.p (.tuple (Rw F))), x8, some (.loc st.length), p10, x11, some (.p (.tuple (Rw one))), some (.p (.tuple (Rw other))), some (.p (.tuple (Rw (bothL one other)))), some (.p (.tuple (Rw (prodP one other)))), some (.p (.tuple (Rw (partL one s)))), some (.p (.tuple (Rw (rootL one)))), p18, x19, x20, x21] (st ++ [.dT kvs1]) ∧
      kvs1.map (·.1) = ks1.map keyI ∧ (∀ z, z ∈ ks1 ↔ z ∈ ks ∨ ∃ a ∈ as, ∃ b ∈ other, a.zipWith (· + ·) b = z) ∧ ks1.length ≤ ks.length + 3 * as.length
  | [], kvs, ks, o10, o18, _, hk, _ => ⟨kvs, ks, o10, o18, rfl, hk, fun z => by simp, by simp⟩
  | a :: as, kvs, ks, o10, o18, ha, hk, hl => by
    obtain ⟨kvs1, ks1, p18, g1, g2, g3, g4⟩ := sum_in (a := a) (c := c) (E := fun o => [x0, some (.loc 1), x2, some (.p (.int (c : Int))), some (.p (tupI s)), some (.p (.list (Rw bx))), x6, some (.p (.tuple (Rw F))), x8, some (.loc st.length), some (.p (tupI a)), x11, some (.p (.tuple (Rw one))), some (.p (.tuple (Rw other))), some (.p (.tuple (Rw (bothL one other)))), some (.p (.tuple (Rw (prodP one other)))), some (.p (.tuple (Rw (partL one s)))), some (.p (.tuple (Rw (rootL one)))), o, x19, x20, x21]) (st := st) (ha a List.mem_cons_self) c1 c3 (fun _ _ => rfl) (fun _ _ => rfl) (fun _ _ => rfl) (fun _ _ => rfl) other kvs ks o18 h2 hk (by simp at hl; omega)
    obtain ⟨kvs2, ks2, q10, q18, f1, f2, f3, f4⟩ := sum_out c1 c3 h2 n2 as kvs1 ks1 (some (.p (tupI a))) p18 (fun b hb => ha b (List.mem_cons_of_mem _ hb)) g2 (by simp at hl; omega)
    refine ⟨kvs2, ks2, q10, q18, ?_, f2, fun z => ?_, by simp; omega⟩
    · rw [List.map_cons]
      unfold forL
      have e0 : gSet (.nm 10) (.p (tupI a)) [x0, some (.loc 1), x2, some (.p (.int (c : Int))), some (.p (tupI s)), some (.p (.list (Rw bx))), x6, some (.p (.tuple (Rw F))), x8, some (.loc st.length), o10, x11, some (.p (.tuple (Rw one))), some (.p (.tuple (Rw other))), some (.p (.tuple (Rw (bothL one other)))), some (.p (.tuple (Rw (prodP one other)))), some (.p (.tuple (Rw (partL one s)))), some (.p (.tuple (Rw (rootL one)))), o18, x19, x20, x21] = some [x0, some (.loc 1), x2, some (.p (.int (c : Int))), some (.p (tupI s)), some (.p (.list (Rw bx))), x6, some (.p (.tuple (Rw F))), x8, some (.loc st.length), some (.p (tupI a)), x11, some (.p (.tuple (Rw one))), some (.p (.tuple (Rw other))), some (.p (.tuple (Rw (bothL one other)))), some (.p (.tuple (Rw (prodP one other)))), some (.p (.tuple (Rw (partL one s)))), some (.p (.tuple (Rw (rootL one)))), o18, x19, x20, x21] := rfl
      have e1 : (sSeq (sFor (iSeq (mVar 13)) (.nm 18) (sSeq (sPutD (mVar 9) (mCall (aCons (mVar 10) (aCons (mVar 18) (aNil))) (sized 2 φ__law_plus)) (mC (.bool true))) (sNil))) (sNil)) [x0, some (.loc 1), x2, some (.p (.int (c : Int))), some (.p (tupI s)), some (.p (.list (Rw bx))), x6, some (.p (.tuple (Rw F))), x8, some (.loc st.length), some (.p (tupI a)), x11, some (.p (.tuple (Rw one))), some (.p (.tuple (Rw other))), some (.p (.tuple (Rw (bothL one other)))), some (.p (.tuple (Rw (prodP one other)))), some (.p (.tuple (Rw (partL one s)))), some (.p (.tuple (Rw (rootL one)))), o18, x19, x20, x21] (st ++ [.dT kvs]) = .nx [x0, some (.loc 1), x2, some (.p (.int (c : Int))), some (.p (tupI s)), some (.p (.list (Rw bx))), x6, some (.p (.tuple (Rw F))), x8, some (.loc st.length), some (.p (tupI a)), x11, some (.p (.tuple (Rw one))), some (.p (.tuple (Rw other))), some (.p (.tuple (Rw (bothL one other)))), some (.p (.tuple (Rw (prodP one other)))), some (.p (.tuple (Rw (partL one s)))), some (.p (.tuple (Rw (rootL one)))), p18, x19, x20, x21] (st ++ [.dT kvs1]) := e_nx ((e_for (src_rows rfl)).trans g1) rfl
      rw [e0]
      simp only [e1]
      exact f1
    · rw [f3 z, g3 z]
      constructor
      · rintro ((q | ⟨b, hb, e⟩) | ⟨y, hy, b, hb, e⟩)
        · exact .inl q
        · exact .inr ⟨a, List.mem_cons_self, b, hb, e⟩
        · exact .inr ⟨y, List.mem_cons_of_mem _ hy, b, hb, e⟩
      · rintro (q | ⟨y, hy, b, hb, e⟩)
        · exact .inl (.inl q)
        · rcases List.mem_cons.mp hy with w | hy
          · rw [w] at e; exact .inl (.inr ⟨b, hb, e⟩)
          · exact .inr ⟨y, hy, b, hb, e⟩
theorem sg10 {x0 x2 x3 x4 x5 x6 x7 x8 x9 x10 x11 x12 x13 x14 x15 x16 x17 x18 x19 x20 x21 : Option D} {st : Sto} {c : Nat} {one other bx : List (List Int)} {s : List Int} (L : Lot c one other s) {F : List (List Int)} : ∃ (kvs : List (List Key × PyData)) (ks : List (List Int)) (p10 p18 : Option D), sSeq q9 q10 [x0, some (.loc 1), x2, some (.p (.int (c : Int))), some (.p (tupI s)), some (.p (.list (Rw bx))), x6, some (.p (.tuple (Rw F))), x8, x9, x10, x11, some (.p (.tuple (Rw one))), some (.p (.tuple (Rw other))), some (.p (.tuple (Rw (bothL one other)))), some (.p (.tuple (Rw (prodP one other)))), some (.p (.tuple (Rw (partL one s)))), some (.p (.tuple (Rw (rootL one)))), x18, x19, x20, x21] st = .nx [x0, some (.loc 1), x2, some (.p (.int (c : Int))), some (.p (tupI s)), some (.p (.list (Rw bx))), x6, some (.p (.tuple (Rw F))), x8, some (.loc st.length), p10, x11, some (.p (.tuple (Rw one))), some (.p (.tuple (Rw other))), some (.p (.tuple (Rw (bothL one other)))), some (.p (.tuple (Rw (prodP one other)))), some (.p (.tuple (Rw (partL one s)))), some (.p (.tuple (Rw (rootL one)))), p18, x19, x20, x21] (st ++ [.dT kvs]) ∧ kvs.map (·.1) = ks.map keyI ∧ (∀ z, z ∈ ks ↔ z ∈ prodL (fun a b => a.zipWith (· + ·) b) one other) ∧ ks.length < 64 := by
  obtain ⟨kvs, ks, p10, p18, g1, g2, g3, g4⟩ := sum_out (st := st) (x0 := x0) (x2 := x2) (x6 := x6) (x8 := x8) (x11 := x11) (x19 := x19) (x20 := x20) (x21 := x21) (bx := bx) (F := F) (s := s) L.c1 L.c3 (fun k hk => (L.h2 k hk).l) L.n2 one [] [] x10 x18 (fun k hk => (L.h1 k hk).l) rfl (by have := L.n1; simp; omega)
  refine ⟨kvs, ks, p10, p18, ?_, g2, fun z => ?_, by have := L.n1; simp at g4; omega⟩
  · exact e_nx (e_set (d := .loc st.length) (st1 := st ++ [.dT []]) rfl rfl) ((e_for (src_rows rfl)).trans g1)
  · rw [g3 z, mem_prodL]
    simp
theorem sg11 {x0 x2 x3 x4 x5 x6 x7 x8 x9 x10 x11 x12 x13 x14 x15 x16 x17 x18 x19 x20 x21 : Option D} {st : Sto} {c : Nat} {one other bx : List (List Int)} {s : List Int} (L : Lot c one other s) {F : List (List Int)} {kvs : List (List Key × PyData)} {ks : List (List Int)} (hk : kvs.map (·.1) = ks.map keyI) (hm : ∀ z, z ∈ ks ↔ z ∈ prodL (fun a b => a.zipWith (· + ·) b) one other) (hl : ks.length < 64) : ∃ e : Sto, q11 [x0, some (.loc 1), x2, some (.p (.int (c : Int))), some (.p (tupI s)), some (.p (.list (Rw bx))), x6, some (.p (.tuple (Rw F))), x8, some (.loc st.length), x10, x11, some (.p (.tuple (Rw one))), some (.p (.tuple (Rw other))), some (.p (.tuple (Rw (bothL one other)))), some (.p (.tuple (Rw (prodP one other)))), some (.p (.tuple (Rw (partL one s)))), some (.p (.tuple (Rw (rootL one)))), x18, x19, x20, x21] (st ++ [.dT kvs]) = .nx [x0, some (.loc 1), x2, some (.p (.int (c : Int))), some (.p (tupI s)), some (.p (.list (Rw bx))), x6, some (.p (.tuple (Rw F))), x8, some (.loc st.length), x10, x11, some (.p (.tuple (Rw one))), some (.p (.tuple (Rw other))), some (.p (.tuple (Rw (bothL one other)))), some (.p (.tuple (Rw (prodP one other)))), some (.p (.tuple (Rw (partL one s)))), some (.p (.tuple (Rw (rootL one)))), x18, x19, x20, x21] (st ++ [.dT kvs] ++ e) := by
  have okk : Okc c ks := ⟨L.c1, by have := L.c3; omega, hl, fun k hk => L.oP.r k ((hm k).mp hk)⟩
  obtain ⟨e1, h1⟩ := e_lleastD okk (st ++ [.dT kvs]) (n := st.length) hk get_last
  rw [leastL_eq hm] at h1
  have h2 := e_sqfree L.o1 (st ++ [.dT kvs] ++ e1)
  obtain ⟨e3, h3⟩ := e_lsq (env := [x0, some (.loc 1), x2, some (.p (.int (c : Int))), some (.p (tupI s)), some (.p (.list (Rw bx))), x6, some (.p (.tuple (Rw F))), x8, some (.loc st.length), x10, x11, some (.p (.tuple (Rw one))), some (.p (.tuple (Rw other))), some (.p (.tuple (Rw (bothL one other)))), some (.p (.tuple (Rw (prodP one other)))), some (.p (.tuple (Rw (partL one s)))), some (.p (.tuple (Rw (rootL one)))), x18, x19, x20, x21]) (i := 12) (j := 8) L.o1 (st ++ [.dT kvs] ++ e1 ++ [.set one]) rfl (by show 8 < 22; decide) (fun k => ⟨_, rfl, rfl⟩)
  refine ⟨e1 ++ [.set one] ++ e3, ?_⟩
  rw [← List.append_assoc, ← List.append_assoc]
  exact e_if (k := false) (e_orF (e_tB (b := false) (e_m2 rfl (e_call (e_cons rfl e_nil) rfl h1) (l2 (k := 3) rfl rfl (by rw [neP_R]; simp [prodP])))) (e_tB (b := false) (e_m2 (e_call (e_cons rfl e_nil) rfl h2) h3 (l2 (k := 3) rfl rfl (by rw [neP_b]; simp))))) (by rw [if_neg Bool.false_ne_true]; rfl)
end Q30

set_option maxRecDepth 100000
set_option maxHeartbeats 4000000
namespace Q30
open PySem PySem.Spec Fw
open L2 (Key)
def bads (c : Nat) (one : List (List Int)) : List PyData := [.none, .list (Rw one), .tuple (Rw one ++ [tupI (List.replicate (c + 1) 0)]), .tuple (Rw one ++ [tupI (List.replicate c (-1))]), .tuple (Rw one ++ [.none]), .tuple (Rw one ++ [.tuple (List.replicate c (.bool true))]), .tuple (List.replicate 41 (tupI (List.replicate c 0)))]
theorem atI_nat {α : Type} {xs : List α} {r : Int} (h0 : 0 ≤ r) (h1 : r < xs.length) : ∃ x, L2.atI xs r = some x ∧ x ∈ xs := by
  have hl : r.toNat < xs.length := by omega
  refine ⟨xs[r.toNat], ?_, List.getElem_mem hl⟩
  unfold L2.atI L2.ixN
  rw [if_pos h0, if_pos h1]
  simp [hl]
theorem e_lenL {m : Env' → M D} {env : Env'} {st : Sto} {xs : List PyData} (hm : m env st = .ok (.p (.list xs)) st) : mL (aCons m aNil) (gL1 lenG) env st = .ok (.p (.int xs.length)) st := e_mL (e_cons hm e_nil) rfl
theorem e_pick {xs : List PyData} (hx : xs.length = 7) {st : Sto} (h : Tp st) : ∃ (x : PyData) (st1 : Sto), φ__law_pick [.loc 1, .p (.list xs)] st = .ok (.p x) st1 ∧ x ∈ xs ∧ Tp st1 := by
  obtain ⟨r, st1, h1, h2, h3, h4⟩ := e_draw h (many := 7) (by decide) (by decide)
  obtain ⟨x, hx1, hx2⟩ := atI_nat (xs := xs) h2 (by rw [hx]; exact h3)
  have hl := e_lenL (m := mVar 1) (env := [some (.loc 1), some (.p (.list xs))]) (st := st) (xs := xs) rfl
  rw [hx] at hl
  have e : lft (ixG (.p (.list xs)) (.p (.int r))) st1 = .ok (.p x) st1 := by
    show (match ((L2.atI xs r).map fun x => (D.p x, st1)) with
      | some (d, st2) => Fw.R.ok d st2
      | none => .bad) = _
    rw [hx1]
    rfl
  exact ⟨x, st1, e_fn (e_ret (e_m2 rfl (e_call (e_cons rfl (e_cons hl e_nil)) rfl h1) e)), hx2, h4⟩
theorem monB_rep_b {c : Nat} (c1 : 1 ≤ c) : monB c (.tuple (List.replicate c (.bool true))) = false := by
  rw [monB_t]
  have : (List.replicate c (PyData.bool true)).all nnB = false := by
    rw [List.all_eq_false]
    exact ⟨.bool true, List.mem_replicate.mpr ⟨by omega, rfl⟩, by simp [nnB]⟩
  rw [this, Bool.and_false]
theorem bads_ok {c : Nat} {one other : List (List Int)} {s : List Int} (L : Lot c one other s) : ∀ x ∈ bads c one, ∀ st, φ__law_told [.p x, .p (.int c)] st = .ok (.p (.str ("refused" : Str))) st := by
  have c1 := L.c1
  have c3 := L.c3
  have vr := vB_rows c3 L.h1
  have n1 := L.n1
  have vapp : ∀ y, vB y = true → (Rw one ++ [y]).all vB = true := fun y hy => by rw [List.all_append, vr]; simp [hy]
  have lapp : ∀ y, (Rw one ++ [y]).length ≤ 1000 := fun y => by simp; omega
  intro x hx st
  simp only [bads, List.mem_cons, List.not_mem_nil, or_false] at hx
  rcases hx with rfl | rfl | rfl | rfl | rfl | rfl | rfl
  · exact told_exc _ _ _ (ck_no _ _ _ rfl)
  · exact told_exc _ _ _ (ck_no _ _ _ rfl)
  · refine told_bad st (vapp _ (vB_T (by simp; omega))) (lapp _) (List.mem_append_right _ (List.mem_singleton.mpr rfl)) ?_
    rw [monB_T, decide_eq_false (by simp), Bool.false_and]
  · refine told_bad st (vapp _ (vB_T (by simp; omega))) (lapp _) (List.mem_append_right _ (List.mem_singleton.mpr rfl)) ?_
    rw [monB_T]
    have : (List.replicate c (-1 : Int)).all (fun i => decide (0 ≤ i)) = false := by
      rw [List.all_eq_false]
      exact ⟨-1, List.mem_replicate.mpr ⟨by omega, rfl⟩, by decide⟩
    rw [this, Bool.and_false]
  · exact told_bad st (vapp _ rfl) (lapp _) (List.mem_append_right _ (List.mem_singleton.mpr rfl)) rfl
  · refine told_bad st (vapp _ ?_) (lapp _) (List.mem_append_right _ (List.mem_singleton.mpr rfl)) (monB_rep_b c1)
    show ((List.replicate c (PyData.bool true)).all ib && decide ((List.replicate c (PyData.bool true)).length ≤ 1000)) = true
    rw [Bool.and_eq_true]
    exact ⟨List.all_eq_true.mpr fun y hy => by rw [(List.mem_replicate.mp hy).2]; rfl, decide_eq_true (by simp; omega)⟩
  · refine told_exc _ _ _ ?_
    rw [ck_tup _ c st (List.all_eq_true.mpr fun y hy => by rw [(List.mem_replicate.mp hy).2]; exact vB_T (by simp; omega)) (by simp), if_neg]
    rintro ⟨q, _⟩
    simp at q
theorem one_ok {c : Nat} {one other : List (List Int)} {s : List Int} (L : Lot c one other s) (st : Sto) : φ__law_told [.p (.tuple (Rw one)), .p (.int c)] st = .ok (.p .none) st := by
  have n1 := L.n1
  refine told_ok _ _ _ ?_
  rw [ck_tup (Rw one) c st (vB_rows L.c3 L.h1) (by simp; omega), if_pos]
  refine ⟨by simp; omega, List.all_eq_true.mpr fun x hx => ?_⟩
  obtain ⟨k, hk, rfl⟩ := List.mem_map.mp hx
  have sk := L.h1 k hk
  rw [monB_T, Bool.and_eq_true]
  exact ⟨decide_eq_true sk.l, List.all_eq_true.mpr fun i hi => decide_eq_true (sk.r i hi).1⟩
/-- (x,) * k and one + (y,) -/
theorem e_rep {x : PyData} {mx mk : Env' → M D} {env : Env'} {st : Sto} {k : Int} (h1 : mx env st = .ok (.p x) st) (h2 : mk env st = .ok (.p (.int k)) st) (h0 : 0 ≤ k) (h3 : k ≤ 1000) : m2 (mL (aCons mx aNil) gTupD) mk (lift2 1 mulP) env st = .ok (.p (.tuple (List.replicate k.toNat x))) st :=
  e_m2 (e_mL (e_cons h1 e_nil) (r := .ok (.p (.tuple [x])) st) rfl) h2 (l2 (k := 1) rfl rfl (mul_rep x h0 h3))
theorem e_app1 {xs : List PyData} {y : PyData} {m my : Env' → M D} {env : Env'} {st : Sto} (h1 : m env st = .ok (.p (.tuple xs)) st) (h2 : my env st = .ok (.p y) st) (hl : xs.length ≤ 900) : m2 m (mL (aCons my aNil) gTupD) (lift2 1 addP) env st = .ok (.p (.tuple (xs ++ [y]))) st :=
  e_m2 h1 (e_mL (e_cons h2 e_nil) (r := .ok (.p (.tuple [y])) st) rfl) (l2 (k := 1) rfl rfl (add_tup (by simp; omega)))
theorem sg12 {x0 x2 x3 x4 x5 x6 x7 x8 x9 x10 x11 x12 x13 x14 x15 x16 x17 x18 x19 x20 x21 : Option D} {n : Nat} {st : Sto} {c : Nat} {one other bx : List (List Int)} {s : List Int} (L : Lot c one other s) {F : List (List Int)} (h : Tp st) : ∃ (x : PyData) (st1 : Sto), q12 [x0, some (.loc 1), x2, some (.p (.int (c : Int))), some (.p (tupI s)), some (.p (.list (Rw bx))), x6, some (.p (.tuple (Rw F))), x8, some (.loc n), x10, x11, some (.p (.tuple (Rw one))), some (.p (.tuple (Rw other))), some (.p (.tuple (Rw (bothL one other)))), some (.p (.tuple (Rw (prodP one other)))), some (.p (.tuple (Rw (partL one s)))), some (.p (.tuple (Rw (rootL one)))), x18, x19, x20, x21] st = .nx [x0, some (.loc 1), x2, some (.p (.int (c : Int))), some (.p (tupI s)), some (.p (.list (Rw bx))), x6, some (.p (.tuple (Rw F))), x8, some (.loc n), x10, some (.p x), some (.p (.tuple (Rw one))), some (.p (.tuple (Rw other))), some (.p (.tuple (Rw (bothL one other)))), some (.p (.tuple (Rw (prodP one other)))), some (.p (.tuple (Rw (partL one s)))), some (.p (.tuple (Rw (rootL one)))), x18, x19, x20, x21] st1 ∧ x ∈ bads c one ∧ Tp st1 := by
  have c1 := L.c1
  have c3 := L.c3
  have n1 := L.n1
  obtain ⟨x, st1, h1, h2, h3⟩ := e_pick (xs := bads c one) rfl h
  refine ⟨x, st1, e_set (e_call (e_cons rfl (e_cons (d := .p (.list (bads c one))) (st1 := st) ?_ e_nil)) rfl h1) rfl, h2, h3⟩
  have lo : (Rw one).length ≤ 900 := by simp; omega
  have z0 : ∀ env st, mC (.int 0) env st = .ok (.p (.int 0)) st := fun _ _ => rfl
  have r1 := e_rep (x := .int 0) (mx := mC (.int 0)) (mk := m2 (mVar 3) (mC (.int 1)) (lift2 1 addP)) (env := [x0, some (.loc 1), x2, some (.p (.int (c : Int))), some (.p (tupI s)), some (.p (.list (Rw bx))), x6, some (.p (.tuple (Rw F))), x8, some (.loc n), x10, x11, some (.p (.tuple (Rw one))), some (.p (.tuple (Rw other))), some (.p (.tuple (Rw (bothL one other)))), some (.p (.tuple (Rw (prodP one other)))), some (.p (.tuple (Rw (partL one s)))), some (.p (.tuple (Rw (rootL one)))), x18, x19, x20, x21]) (st := st) (k := (c : Int) + 1) rfl (e_m2 rfl (e := .p (.int 1)) (st2 := st) rfl (l2 (k := 1) rfl rfl rfl)) (by omega) (by omega)
  have r2 := e_rep (x := .int (-1)) (mx := m1 (mC (.int 1)) (lift1 1 negP)) (mk := mVar 3) (env := [x0, some (.loc 1), x2, some (.p (.int (c : Int))), some (.p (tupI s)), some (.p (.list (Rw bx))), x6, some (.p (.tuple (Rw F))), x8, some (.loc n), x10, x11, some (.p (.tuple (Rw one))), some (.p (.tuple (Rw other))), some (.p (.tuple (Rw (bothL one other)))), some (.p (.tuple (Rw (prodP one other)))), some (.p (.tuple (Rw (partL one s)))), some (.p (.tuple (Rw (rootL one)))), x18, x19, x20, x21]) (st := st) (k := c) (e_m1 (d := .p (.int 1)) (st1 := st) rfl (l1 (k := 1) rfl rfl)) rfl (by omega) (by omega)
  have r3 := e_rep (x := .bool true) (mx := mC (.bool true)) (mk := mVar 3) (env := [x0, some (.loc 1), x2, some (.p (.int (c : Int))), some (.p (tupI s)), some (.p (.list (Rw bx))), x6, some (.p (.tuple (Rw F))), x8, some (.loc n), x10, x11, some (.p (.tuple (Rw one))), some (.p (.tuple (Rw other))), some (.p (.tuple (Rw (bothL one other)))), some (.p (.tuple (Rw (prodP one other)))), some (.p (.tuple (Rw (partL one s)))), some (.p (.tuple (Rw (rootL one)))), x18, x19, x20, x21]) (st := st) (k := c) rfl rfl (by omega) (by omega)
  have r4 := e_rep (x := .int 0) (mx := mC (.int 0)) (mk := mVar 3) (env := [x0, some (.loc 1), x2, some (.p (.int (c : Int))), some (.p (tupI s)), some (.p (.list (Rw bx))), x6, some (.p (.tuple (Rw F))), x8, some (.loc n), x10, x11, some (.p (.tuple (Rw one))), some (.p (.tuple (Rw other))), some (.p (.tuple (Rw (bothL one other)))), some (.p (.tuple (Rw (prodP one other)))), some (.p (.tuple (Rw (partL one s)))), some (.p (.tuple (Rw (rootL one)))), x18, x19, x20, x21]) (st := st) (k := c) rfl rfl (by omega) (by omega)
  have t1 : ((c : Int) + 1).toNat = c + 1 := by omega
  have t2 : (c : Int).toNat = c := by omega
  rw [t1, rep_T] at r1
  rw [t2, rep_T] at r2 r4
  rw [t2] at r3
  have r5 := e_rep (mk := mC (.int 41)) (k := 41) r4 rfl (by decide) (by decide)
  exact e_mL (e_cons (d := .p .none) (st1 := st) rfl (e_cons (d := .p (.list (Rw one))) (st1 := st) (e_mL (e_cons rfl e_nil) (l1 (k := 1) rfl rfl)) (e_cons (e_app1 rfl r1 lo) (e_cons (e_app1 rfl r2 lo) (e_cons (e_app1 (my := mC .none) rfl rfl lo) (e_cons (e_app1 rfl r3 lo) (e_cons r5 e_nil))))))) rfl
theorem sg13 {x0 x2 x3 x4 x5 x6 x7 x8 x9 x10 x11 x12 x13 x14 x15 x16 x17 x18 x19 x20 x21 : Option D} {n : Nat} {st : Sto} {c : Nat} {one other bx : List (List Int)} {s : List Int} (L : Lot c one other s) {F : List (List Int)} {x : PyData} (hx : x ∈ bads c one) : q13 [x0, some (.loc 1), x2, some (.p (.int (c : Int))), some (.p (tupI s)), some (.p (.list (Rw bx))), x6, some (.p (.tuple (Rw F))), x8, some (.loc n), x10, some (.p x), some (.p (.tuple (Rw one))), some (.p (.tuple (Rw other))), some (.p (.tuple (Rw (bothL one other)))), some (.p (.tuple (Rw (prodP one other)))), some (.p (.tuple (Rw (partL one s)))), some (.p (.tuple (Rw (rootL one)))), x18, x19, x20, x21] st = .nx [x0, some (.loc 1), x2, some (.p (.int (c : Int))), some (.p (tupI s)), some (.p (.list (Rw bx))), x6, some (.p (.tuple (Rw F))), x8, some (.loc n), x10, some (.p x), some (.p (.tuple (Rw one))), some (.p (.tuple (Rw other))), some (.p (.tuple (Rw (bothL one other)))), some (.p (.tuple (Rw (prodP one other)))), some (.p (.tuple (Rw (partL one s)))), some (.p (.tuple (Rw (rootL one)))), x18, x19, x20, x21] st := by
  exact e_if (k := false) (e_orF (e_tB (b := false) (e_m2 (e_call (e_cons rfl (e_cons rfl e_nil)) rfl (bads_ok L x hx st)) (e := .p (.str ("refused" : Str))) (st2 := st) rfl (l2 (k := 3) rfl rfl rfl))) (e_tB (b := false) (e_m2 (e_call (e_cons rfl (e_cons rfl e_nil)) rfl (one_ok L st)) (e := .p .none) (st2 := st) rfl (l2 (k := 1) rfl rfl rfl)))) (by rw [if_neg Bool.false_ne_true]; rfl)
theorem turn_ok {x0 x2 x3 x4 x5 x6 x7 x8 x9 x10 x11 x12 x13 x14 x15 x16 x17 x18 x19 x20 x21 : Option D} {st : Sto} (h : Tp st) : ∃ (p0 p2 p3 p4 p5 p6 p7 p8 p9 p10 p11 p12 p13 p14 p15 p16 p17 p18 p19 p20 p21 : Option D) (st1 : Sto), qb [x0, some (.loc 1), x2, x3, x4, x5, x6, x7, x8, x9, x10, x11, x12, x13, x14, x15, x16, x17, x18, x19, x20, x21] st = .nx [p0, some (.loc 1), p2, p3, p4, p5, p6, p7, p8, p9, p10, p11, p12, p13, p14, p15, p16, p17, p18, p19, p20, p21] st1 ∧ Tp st1 := by
  obtain ⟨c, st1, a0, c1, c3, t1⟩ := sg0 h (x0 := x0) (x2 := x2) (x3 := x3) (x4 := x4) (x5 := x5) (x6 := x6) (x7 := x7) (x8 := x8) (x9 := x9) (x10 := x10) (x11 := x11) (x12 := x12) (x13 := x13) (x14 := x14) (x15 := x15) (x16 := x16) (x17 := x17) (x18 := x18) (x19 := x19) (x20 := x20) (x21 := x21)
  obtain ⟨one, other, st2, a1, n1, n2, h1, h2, t2⟩ := sg1 (c := c) c3 t1 (x0 := x0) (x2 := x2) (x3 := x3) (x4 := x4) (x5 := x5) (x6 := x6) (x7 := x7) (x8 := x8) (x9 := x9) (x10 := x10) (x11 := x11) (x12 := x12) (x13 := x13) (x14 := x14) (x15 := x15) (x16 := x16) (x17 := x17) (x18 := x18) (x19 := x19) (x20 := x20) (x21 := x21)
  obtain ⟨s, st3, a2, hs, t3⟩ := sg2 (c := c) (one := one) (other := other) c3 t2 (x0 := x0) (x2 := x2) (x3 := x3) (x4 := x4) (x5 := x5) (x6 := x6) (x7 := x7) (x8 := x8) (x9 := x9) (x10 := x10) (x11 := x11) (x12 := x12) (x13 := x13) (x14 := x14) (x15 := x15) (x16 := x16) (x17 := x17) (x18 := x18) (x19 := x19) (x20 := x20) (x21 := x21)
  have L : Lot c one other s := ⟨c1, c3, n1, n2, h1, h2, hs⟩
  obtain ⟨bx, a3, hb, hr, hq⟩ := sg3 (st := st3) (c := c) (one := one) (other := other) (s := s) c1 c3 (x0 := x0) (x2 := x2) (x3 := x3) (x4 := x4) (x5 := x5) (x6 := x6) (x7 := x7) (x8 := x8) (x9 := x9) (x10 := x10) (x11 := x11) (x12 := x12) (x13 := x13) (x14 := x14) (x15 := x15) (x16 := x16) (x17 := x17) (x18 := x18) (x19 := x19) (x20 := x20) (x21 := x21)
  obtain ⟨e4, a4⟩ := sg4 (st := st3) L hb hr (x0 := x0) (x2 := x2) (x3 := x3) (x4 := x4) (x5 := x5) (x6 := x6) (x7 := x7) (x8 := x8) (x9 := x9) (x10 := x10) (x11 := x11) (x12 := x12) (x13 := x13) (x14 := x14) (x15 := x15) (x16 := x16) (x17 := x17) (x18 := x18) (x19 := x19) (x20 := x20) (x21 := x21)
  obtain ⟨e5, a5⟩ := sg5 (st := st3 ++ e4) (bx := bx) L (x0 := x0) (x2 := x2) (x3 := x3) (x4 := x4) (x5 := x5) (x6 := x6) (x7 := x7) (x8 := x8) (x9 := x9) (x10 := x10) (x11 := x11) (x12 := x12) (x13 := x13) (x14 := x14) (x15 := x15) (x16 := x16) (x17 := x17) (x18 := x18) (x19 := x19) (x20 := x20) (x21 := x21)
  obtain ⟨o6, st6, a6, t6⟩ := sg6 (st := st3 ++ e4 ++ e5) (bx := bx) L ((t3.app e4).app e5) (x0 := x0) (x2 := x2) (x3 := x3) (x4 := x4) (x5 := x5) (x6 := x6) (x7 := x7) (x8 := x8) (x9 := x9) (x10 := x10) (x11 := x11) (x12 := x12) (x13 := x13) (x14 := x14) (x15 := x15) (x16 := x16) (x17 := x17) (x18 := x18) (x19 := x19) (x20 := x20) (x21 := x21)
  obtain ⟨F, e7, a7, hF⟩ := sg7 (st := st6) (bx := bx) L (x0 := x0) (x2 := x2) (x3 := x3) (x4 := x4) (x5 := x5) (x6 := o6) (x7 := x7) (x8 := x8) (x9 := x9) (x10 := x10) (x11 := x11) (x12 := x12) (x13 := x13) (x14 := x14) (x15 := x15) (x16 := x16) (x17 := x17) (x18 := x18) (x19 := x19) (x20 := x20) (x21 := x21)
  obtain ⟨o8, a8⟩ := sg8 (st := st6 ++ e7) L hb hr hq hF (x0 := x0) (x2 := x2) (x3 := x3) (x4 := x4) (x5 := x5) (x6 := o6) (x7 := x7) (x8 := x8) (x9 := x9) (x10 := x10) (x11 := x11) (x12 := x12) (x13 := x13) (x14 := x14) (x15 := x15) (x16 := x16) (x17 := x17) (x18 := x18) (x19 := x19) (x20 := x20) (x21 := x21)
  obtain ⟨kvs, ks, p10, p18, a10, g2, g3, g4⟩ := sg10 (st := st6 ++ e7) (bx := bx) (F := F) L (x0 := x0) (x2 := x2) (x3 := x3) (x4 := x4) (x5 := x5) (x6 := o6) (x7 := x7) (x8 := o8) (x9 := x9) (x10 := x10) (x11 := x11) (x12 := x12) (x13 := x13) (x14 := x14) (x15 := x15) (x16 := x16) (x17 := x17) (x18 := x18) (x19 := x19) (x20 := x20) (x21 := x21)
  obtain ⟨e11, a11⟩ := sg11 (st := st6 ++ e7) (bx := bx) (F := F) L g2 g3 g4 (x0 := x0) (x2 := x2) (x3 := x3) (x4 := x4) (x5 := x5) (x6 := o6) (x7 := x7) (x8 := o8) (x9 := x9) (x10 := p10) (x11 := x11) (x12 := x12) (x13 := x13) (x14 := x14) (x15 := x15) (x16 := x16) (x17 := x17) (x18 := p18) (x19 := x19) (x20 := x20) (x21 := x21)
  obtain ⟨x, st12, a12, hx, t12⟩ := sg12 (n := (st6 ++ e7).length) (st := st6 ++ e7 ++ [.dT kvs] ++ e11) (bx := bx) (F := F) L (((t6.app e7).app _).app _) (x0 := x0) (x2 := x2) (x3 := x3) (x4 := x4) (x5 := x5) (x6 := o6) (x7 := x7) (x8 := o8) (x9 := x9) (x10 := p10) (x11 := x11) (x12 := x12) (x13 := x13) (x14 := x14) (x15 := x15) (x16 := x16) (x17 := x17) (x18 := p18) (x19 := x19) (x20 := x20) (x21 := x21)
  have a13 := sg13 (n := (st6 ++ e7).length) (st := st12) (bx := bx) (F := F) L hx (x0 := x0) (x2 := x2) (x3 := x3) (x4 := x4) (x5 := x5) (x6 := o6) (x7 := x7) (x8 := o8) (x9 := x9) (x10 := p10) (x11 := x11) (x12 := x12) (x13 := x13) (x14 := x14) (x15 := x15) (x16 := x16) (x17 := x17) (x18 := p18) (x19 := x19) (x20 := x20) (x21 := x21)
  have b9 : q9 [x0, some (.loc 1), x2, some (.p (.int (c : Int))), some (.p (tupI s)), some (.p (.list (Rw bx))), o6, some (.p (.tuple (Rw F))), o8, x9, x10, x11, some (.p (.tuple (Rw one))), some (.p (.tuple (Rw other))), some (.p (.tuple (Rw (bothL one other)))), some (.p (.tuple (Rw (prodP one other)))), some (.p (.tuple (Rw (partL one s)))), some (.p (.tuple (Rw (rootL one)))), x18, x19, x20, x21] (st6 ++ e7) = .nx [x0, some (.loc 1), x2, some (.p (.int (c : Int))), some (.p (tupI s)), some (.p (.list (Rw bx))), o6, some (.p (.tuple (Rw F))), o8, some (.loc (st6 ++ e7).length), x10, x11, some (.p (.tuple (Rw one))), some (.p (.tuple (Rw other))), some (.p (.tuple (Rw (bothL one other)))), some (.p (.tuple (Rw (prodP one other)))), some (.p (.tuple (Rw (partL one s)))), some (.p (.tuple (Rw (rootL one)))), x18, x19, x20, x21] (st6 ++ e7 ++ [.dT []]) := rfl
  have b10 : q10 [x0, some (.loc 1), x2, some (.p (.int (c : Int))), some (.p (tupI s)), some (.p (.list (Rw bx))), o6, some (.p (.tuple (Rw F))), o8, some (.loc (st6 ++ e7).length), x10, x11, some (.p (.tuple (Rw one))), some (.p (.tuple (Rw other))), some (.p (.tuple (Rw (bothL one other)))), some (.p (.tuple (Rw (prodP one other)))), some (.p (.tuple (Rw (partL one s)))), some (.p (.tuple (Rw (rootL one)))), x18, x19, x20, x21] (st6 ++ e7 ++ [.dT []]) = .nx [x0, some (.loc 1), x2, some (.p (.int (c : Int))), some (.p (tupI s)), some (.p (.list (Rw bx))), o6, some (.p (.tuple (Rw F))), o8, some (.loc (st6 ++ e7).length), p10, x11, some (.p (.tuple (Rw one))), some (.p (.tuple (Rw other))), some (.p (.tuple (Rw (bothL one other)))), some (.p (.tuple (Rw (prodP one other)))), some (.p (.tuple (Rw (partL one s)))), some (.p (.tuple (Rw (rootL one)))), p18, x19, x20, x21] (st6 ++ e7 ++ [.dT kvs]) := a10
  exact ⟨_, _, _, _, _, _, _, _, _, _, _, _, _, _, _, _, _, _, _, _, _, st12, e_nx a0 (e_nx a1 (e_nx a2 (e_nx a3 (e_nx a4 (e_nx a5 (e_nx a6 (e_nx a7 (e_nx a8 (e_nx b9 (e_nx b10 (e_nx a11 (e_nx a12 (e_nx a13 rfl))))))))))))), t12⟩
theorem law_true (ns : List Int) (hl : ns.length ≤ 63) : ∃ st, φ_law [.p (.list (ns.map .int))] [] = .ok (.p (.bool true)) st := by
  obtain ⟨st0, h0, t0⟩ := e_tape ns hl
  obtain ⟨p0, p2, p3, p4, p5, p6, p7, p8, p9, p10, p11, p12, p13, p14, p15, p16, p17, p18, p19, p20, p21, st1, h1, t1⟩ := turn_ok (x0 := some (.p (.list (ns.map .int)))) (x2 := some (.p (.int 0))) (x3 := none) (x4 := none) (x5 := none) (x6 := none) (x7 := none) (x8 := none) (x9 := none) (x10 := none) (x11 := none) (x12 := none) (x13 := none) (x14 := none) (x15 := none) (x16 := none) (x17 := none) (x18 := none) (x19 := none) (x20 := none) (x21 := none) t0
  obtain ⟨r0, r2, r3, r4, r5, r6, r7, r8, r9, r10, r11, r12, r13, r14, r15, r16, r17, r18, r19, r20, r21, st2, h2, t2⟩ := turn_ok (x0 := p0) (x2 := some (.p (.int 1))) (x3 := p3) (x4 := p4) (x5 := p5) (x6 := p6) (x7 := p7) (x8 := p8) (x9 := p9) (x10 := p10) (x11 := p11) (x12 := p12) (x13 := p13) (x14 := p14) (x15 := p15) (x16 := p16) (x17 := p17) (x18 := p18) (x19 := p19) (x20 := p20) (x21 := p21) t1
  refine ⟨st2, e_fn (e_nx (e_set (e_call (e_cons rfl e_nil) rfl h0) rfl) (e_nx (env1 := [r0, some (.loc 1), r2, r3, r4, r5, r6, r7, r8, r9, r10, r11, r12, r13, r14, r15, r16, r17, r18, r19, r20, r21]) (st1 := st2) ?_ (e_ret rfl)))⟩
  have src : iArgs (aCons (mC (.int 2)) (aNil)) rng1 [some (.p (.list (ns.map .int))), some (.loc 1), none, none, none, none, none, none, none, none, none, none, none, none, none, none, none, none, none, none, none, none] st0 = .ok (.fix [.p (.int 0), .p (.int 1)]) st0 := src_rng (n := 2) (e_cons (d := .p (.int 2)) (st1 := st0) rfl e_nil) (by decide)
  refine (e_for src).trans ?_
  unfold forL
  rw [show gSet (.nm 2) (.p (.int 0)) [some (.p (.list (ns.map .int))), some (.loc 1), none, none, none, none, none, none, none, none, none, none, none, none, none, none, none, none, none, none, none, none] = some [some (.p (.list (ns.map .int))), some (.loc 1), some (.p (.int 0)), none, none, none, none, none, none, none, none, none, none, none, none, none, none, none, none, none, none, none] from rfl]
  simp only [h1]
  unfold forL
  rw [show gSet (.nm 2) (.p (.int 1)) [p0, some (.loc 1), p2, p3, p4, p5, p6, p7, p8, p9, p10, p11, p12, p13, p14, p15, p16, p17, p18, p19, p20, p21] = some [p0, some (.loc 1), some (.p (.int 1)), p3, p4, p5, p6, p7, p8, p9, p10, p11, p12, p13, p14, p15, p16, p17, p18, p19, p20, p21] from rfl]
  simp only [h2]
  rfl
end Q30

set_option maxRecDepth 100000
set_option maxHeartbeats 4000000
namespace Q30
open PySem PySem.Spec PyProof.Rows L2 Fw
/-- the law's walk from its def's promise, the exceptions told by the world -/
theorem walkW {lw : PySem.W.OpenLaw} {most lev : Nat} {qp : Program} {lo : List Str} {XQ : (Str → Option Value) → Heap → Prop} {YQ : World → Heap → Prop} {dr : DefRec} {CW : World → CXT} {xn : Str}
    (h1 : lw.most = some most) (h2 : most ≤ sizeLine) (h3 : dr.params.defaults = []) (h4 : Room lev callerA)
    (FF : ∀ (ww : World) (mg : Str → Option Value) (ff : Addr) (hp : Heap), YQ ww hp → hp.Ns mainGlobals mg → mg dr.name = some (.ref ff) →
      ∃ (KK : PySem.W.Frag) (fdd : FuncData) (sq : Sp), KK.In hp ∧ (∀ (sh : Shared) (uu : Value), BindsTo sh fdd ⟨[uu], []⟩ [(xn, uu)]) ∧
        (∀ (HH : Hp) (aa : Addr) (nn : List Int), nn.length ≤ most → Only HH → SqL KK HH aa (nn.map V.int) → sq [.ref aa] HH (fun vv _ => vv = .bl true) fun _ _ _ => False) ∧
        ∀ bs : Heap, KK.In bs → bs.Ns mainGlobals mg → FnOk lw.prog ww KK mg bs (CW ww) lev ff fdd [xn] sq)
    (hC : ∀ (ww : World) (HH : Hp) (sh : Shared) (ee : Value) (sh' : Shared), CW ww [] HH sh (fun _ _ _ => False) ee sh' → False) :
    PySem.W.WalkO qp lo XQ YQ lw.row.toRowW dr [] (fun f vs => PySem.call f vs) := by
  refine Att.attach_call h1 h3 fun ww z0 z1 mg mb ff oo pm cd doc aa vs nn GG YY ho hd hcd hmg hobj hints hlen hg => ?_
  obtain ⟨KK, fdd, sq, k1, k2, k3, k4⟩ := FF ww mg ff _ YY GG.T.g hmg
  exact law_call k1 GG.T.g GG.T.b GG.T.builtins GG.T.nolimit hg hobj hints (Nat.le_trans hlen h2) h4 k4 k2 (fun HH hO hS => k3 HH aa nn hlen hO hS) fun HH ee sh' => hC ww HH z1 ee sh'
theorem ints_dpA {K : PySem.W.Frag} {W : Hp} (ns : List Int) : DpAll K W (ns.map V.int) (ns.map PyData.int) := ints_dp ns
theorem start_sp {P : Program} {w : World} {K : PySem.W.Frag} {ex : Nat → Addr} {H : Hp} {a : Addr} {ns : List Int} (hl : ns.length ≤ 63) (hO : Only H) (hS : SqL K H a (ns.map V.int)) : spF ⟨K, P, w, ex⟩ 1 φ_law [.ref a] H (fun v _ => v = .bl true) fun _ _ _ => False := by
  refine ⟨rfl, ⟨H, [], fun _ => none⟩, [.p (.list (ns.map .int))], [], .cons (.lst hS (ints_dpA ns)) .nil, ⟨fun b o e => ⟨e, ?_⟩, rfl, fun n b c e => (by simp at e), List.nodup_nil, fun b m => (by cases m), fun n b e => (by simp at e), fun b o e => (by cases e), fun b o e => (by cases e), fun b xs e => (by cases e)⟩, ?_⟩
  · rcases hO b with q | ⟨oo, xs, q⟩
    · rw [show H b = some o from e] at q; cases q
    · rw [show H b = some o from e] at q
      cases q
      exact True.intro
  · obtain ⟨st, e⟩ := law_true ns hl
    rw [e]
    intro w' H' v _ _ r
    have r' : Dp K w'.W v (.bool true) := r
    cases r'
    rfl
end Q30
open PySem PySem.W PySem.Calls PyProof.Rows
theorem PySem.Challenge.cw_sumsandrests_k30_whole_lots_of_monomials_holds : PySem.Challenge.rw_sumsandrests_k30_whole_lots_of_monomials.Holds := by
  w_on; o_law
  refine HandSHeadRun.head_any (r := OpenLaw.row PySem.Challenge.rw_sumsandrests_k30_whole_lots_of_monomials) (q := view (OpenLaw.row PySem.Challenge.rw_sumsandrests_k30_whole_lots_of_monomials).prog [35]) (H := Q30.hk) (ob := Q30.ob) (M := 6000) (loose := Q30.loose)
    (d := HandSHeadRun.topDef (OpenLaw.row PySem.Challenge.rw_sumsandrests_k30_whole_lots_of_monomials).prog 35) (kwd := []) Q30.ob_eq (by kernel_rfl) (fun s => by kernel_rfl) Q30.run (by kernel_rfl) (by kernel_rfl) (by kernel_rfl) (by rfl) (by first | assumption | decide +kernel) (by decide +kernel) ⟨rfl, rfl, rfl, rfl, rfl, by decide +kernel⟩ ?hw ?hc
  case hw => w_witness2
  case hc =>
    refine Q30.walkW (lw := PySem.Challenge.rw_sumsandrests_k30_whole_lots_of_monomials) (most := 63) (lev := 20) (xn := "script") (CW := fun w => L2.CX (PySem.Challenge.rw_sumsandrests_k30_whole_lots_of_monomials).prog w) rfl (by decide) (by kernel_rfl) ⟨rfl, by decide, by decide⟩ ?FF ?hC
    case hC =>
      rintro ww HH sh ee sh' ⟨_, _, _, _, _, _, _, _, _, _, _, _, z⟩
      exact z
    case FF =>
      intro ww mg ff hp YY GG hm0
      obtain ⟨KK, k1, sx⟩ := YY
      have c := sx.t.d
      have hm : mg ("law" : PySem.Str) = some (.ref ff) := by
        have e : (HandSHeadRun.topDef (OpenLaw.row PySem.Challenge.rw_sumsandrests_k30_whole_lots_of_monomials).prog 35).name = ("law" : PySem.Str) := by kernel_rfl
        rw [← e]
        exact hm0
      obtain ⟨fdd, F27⟩ := c.def_ 27 (d := Q30.mkD "law" 35) rfl
      have e := hm.symm.trans (He.glo_ok k1 GG (c.fact 27 (f := .glo "law") rfl))
      cases e
      have b := L2.FunD.bindsA (ps := ["script"]) F27 fun _ _ _ _ _ _ us hl => match us, hl with | [_], _ => rfl
      exact ⟨KK, fdd, _, k1, fun s v => b s [v] rfl, fun H a ns hl hO hS => Q30.start_sp hl hO hS, fun bs _ _ => Q30.all_ok k1 GG c (Q30.nt_of sx.more) F27 bs⟩
