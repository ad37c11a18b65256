import PyProof.Rows.All
import Wide.All
import OpenK.AllK
import Wide.FinOn
import KE.KStateDown
import Lean
import KE.SortData
import KE.DataMinMax
import KE.DataAny
import KE.DataFind
import HandS.ForMost
import HandS.Exc
import HandS.TryOnly
import HandS.ExcOwn
import HandS.WordsExc
import HandS.Zip
import HandS.TupAny
import HandS.TupMul
import HandS.IsInst
import HandS.Wide
import HandS.TupSets
import HandS.HeadWalk
import HandS.Head0
import HandS.Head1
import HandS.Head2
import HandS.HeadEnd
import HandS.HeadHook1
import HandS.HeadHook2
import KE.KTupSum
import KE.DataCmp
import KE.DataEq
import HandS.Style
import HandS.Conv
import KE.KDictPairs
import PyProof.WalksMore
import HandS.Lambda
import KE.GoesEnum
import KE.GoesMore
import PyProof.Rows.CallKwBuiltin
import PyProof.Transfer
import HandS.Comp
import HandS.Iter
import HandS.SetFor
import HandS.HeadHook4
import PySem.Challenge.RW_sumsandrests_k76_whole_polynomials_that
set_option Elab.async false
set_option linter.all false
set_option maxRecDepth 100000
set_option maxHeartbeats 4000000
namespace Fw
open PySem PySem.Spec PyProof.Rows L2

/-! ## values of the small interpreter -/
abbrev P := PyData
/-- a value: pure data, or the place of a mutable object -/
inductive D where
  | p (x : P)
  | loc (n : Nat)
/-- a mutable object -/
inductive Ob where
  | lst (xs : List D)
  | dT (kvs : List (List Key × P))
  | dK (kvs : List (Key × P))
  | set (xs : List (List Int))
abbrev Sto := List Ob
abbrev Env' := List (Option D)
inductive R (α : Type) where
  | ok (a : α) (st : Sto)
  | exc (c : Nat) (st : Sto)
  | bad
/-- a computation -/
abbrev M (α : Type) := Sto → R α
def bnd {α β : Type} (m : M α) (f : α → M β) : M β := fun st => match m st with
  | .ok a st' => f a st'
  | .exc c st' => .exc c st'
  | .bad => .bad
def ret {α : Type} (a : α) : M α := fun st => .ok a st
def bad {α : Type} : M α := fun _ => .bad
def opt {α : Type} (o : Option α) : M α := fun st => match o with
  | some a => .ok a st
  | none => .bad
theorem bnd_ok {α β : Type} {m : M α} {f : α → M β} {st st' : Sto} {a : α} (h : m st = .ok a st') : bnd m f st = f a st' := by
  unfold bnd; rw [h]
theorem bnd_ret {α β : Type} {a : α} {f : α → M β} : bnd (ret a) f = f a := rfl
theorem ret_ap {α : Type} {a : α} {st : Sto} : ret a st = .ok a st := rfl

/-! ## the world: what stands still, and where the mutable objects are -/
structure Wd where
  W : Hp
  L : List Addr
  T : Hp
def ImmO : HO → Prop
  | .tup _ => True
  | .lst _ => True
  | .frz _ (.lst _) => True
  | _ => False
structure Wd.Lc (w w' : Wd) : Prop where
  W : ∀ a o, w.W a = some o → w'.W a = some o
  L : ∃ l, w'.L = w.L ++ l
structure Wd.Le (w w' : Wd) : Prop extends Wd.Lc w w' where
  T : w'.T = w.T
instance {w w' : Wd} : Coe (Wd.Le w w') (Wd.Lc w w') := ⟨Wd.Le.toLc⟩
theorem Wd.Lc.refl (w : Wd) : w.Lc w := ⟨fun _ _ h => h, [], by simp⟩
theorem Wd.Lc.trans {w w1 w2 : Wd} (h : w.Lc w1) (k : w1.Lc w2) : w.Lc w2 := ⟨fun a o e => k.W a o (h.W a o e), by
  obtain ⟨l, e⟩ := h.L
  obtain ⟨l', e'⟩ := k.L
  exact ⟨l ++ l', by rw [e', e, List.append_assoc]⟩⟩
theorem Wd.Le.refl (w : Wd) : w.Le w := ⟨Wd.Lc.refl w, rfl⟩
theorem Wd.Le.trans {w w1 w2 : Wd} (h : w.Le w1) (k : w1.Le w2) : w.Le w2 := ⟨h.toLc.trans k.toLc, k.T.trans h.T⟩
theorem Wd.Lc.get {w w' : Wd} (h : w.Lc w') {n : Nat} {a : Addr} (e : w.L[n]? = some a) : w'.L[n]? = some a := by
  obtain ⟨l, q⟩ := h.L
  rw [q]
  have := (List.getElem?_eq_some_iff.mp e).1
  rw [List.getElem?_append_left this, e]
theorem Wd.Le.get {w w' : Wd} (h : w.Le w') {n : Nat} {a : Addr} (e : w.L[n]? = some a) : w'.L[n]? = some a := h.toLc.get e

/-! ## the module's objects without its tuples of ints -/
def isIv : Value → Bool
  | .int _ _ => true
  | _ => false
def isIT (o : Obj) : Bool := match o.data with
  | .seq its _ => !its.toList.isEmpty && its.toList.all isIv
  | _ => false
def badA (K : PySem.W.Frag) (a : Addr) : Bool := match K.lookup a with
  | some o => isIT o
  | none => false
def strip (K : PySem.W.Frag) : PySem.W.Frag := K.filter fun q => !badA K q.1
theorem lookup_filter {α : Type} (p : Addr → Bool) : ∀ (K : List (Addr × α)) (a : Addr), (K.filter fun q => p q.1).lookup a = if p a = true then K.lookup a else none
  | [], a => by simp
  | (b, o) :: r, a => by
    rw [List.filter_cons, List.lookup_cons]
    by_cases hb : p b = true
    · rw [if_pos hb, List.lookup_cons, lookup_filter p r a]
      cases e : a == b with
      | true =>
        have := eq_of_beq e
        subst this
        simp only [if_pos hb]
      | false => rfl
    · rw [if_neg hb, lookup_filter p r a]
      cases e : a == b with
      | true =>
        have := eq_of_beq e
        subst this
        rw [if_neg hb, if_neg hb]
      | false => rfl
theorem strip_sub {K : PySem.W.Frag} {a : Addr} {o : Obj} (h : (strip K).lookup a = some o) : K.lookup a = some o ∧ isIT o = false := by
  unfold strip at h
  rw [lookup_filter (fun a => !badA K a) K a] at h
  split at h
  · rename_i q
    refine ⟨h, ?_⟩
    unfold badA at q
    rw [h] at q
    simpa using q
  · cases h
theorem sqT_up {K : PySem.W.Frag} {H : Hp} {a : Addr} {xs : List V} (h : SqT (strip K) H a xs) : SqT K H a xs := h.imp id fun ⟨o, its, n, e, r⟩ => ⟨o, its, n, (strip_sub e).1, r⟩
theorem sqL_up {K : PySem.W.Frag} {H : Hp} {a : Addr} {xs : List V} (h : SqL (strip K) H a xs) : SqL K H a xs := h.imp id fun ⟨o, its, n, e, r⟩ => ⟨o, its, n, (strip_sub e).1, r⟩
section
variable {K : PySem.W.Frag}
theorem sqL_mono {H H' : Hp} {a : Addr} {xs : List V} (h : ∀ a o, H a = some o → H' a = some o) (s : SqL K H a xs) : SqL K H' a xs := Same.seq h s
theorem sqT_mono {H H' : Hp} {a : Addr} {xs : List V} (h : ∀ a o, H a = some o → H' a = some o) (s : SqT K H a xs) : SqT K H' a xs := by
  rcases s with (s | ⟨o, s⟩) | s
  · exact .inl (.inl (h _ _ s))
  · exact .inl (.inr ⟨o, h _ _ s⟩)
  · exact .inr s
end
mutual
/-- a value stands for data; a tuple of ints of the module stands for a marked one -/
inductive Dq (K : PySem.W.Frag) (H : Hp) : V → PyData → Prop
  | non : Dq K H .non .none
  | bl (b : Bool) : Dq K H (.bl b) (.bool b)
  | int (i : Int) : Dq K H (.int i) (.int i)
  | str (x : Str) : Dq K H (.str x) (.str x)
  | lst {a : Addr} {xs : List V} {ds : List PyData} : SqL K H a xs → DqAll K H xs ds → Dq K H (.ref a) (.list ds)
  | tup {a : Addr} {xs : List V} {ds : List PyData} : SqT (strip K) H a xs → DqAll K H xs ds → Dq K H (.ref a) (.tuple ds)
  | mk {a : Addr} {ks : List Int} : SqT K H a (ks.map V.int) → Dq K H (.ref a) (.dict [(.tuple (ks.map .int), .none)])
inductive DqAll (K : PySem.W.Frag) (H : Hp) : List V → List PyData → Prop
  | nil : DqAll K H [] []
  | cons {v : V} {vs : List V} {d : PyData} {ds : List PyData} : Dq K H v d → DqAll K H vs ds → DqAll K H (v :: vs) (d :: ds)
end
/-- a marked one -/
abbrev mkD (ks : List Int) : PyData := .dict [(.tuple (ks.map .int), .none)]
mutual
/-- without marks -/
def nm : PyData → PyData
  | .none => .none
  | .bool b => .bool b
  | .int i => .int i
  | .str s => .str s
  | .list xs => .list (nmA xs)
  | .tuple xs => .tuple (nmA xs)
  | .dict kvs => (match kvs with
    | [(.tuple xs, .none)] => .tuple xs
    | l => .dict l)
def nmA : List PyData → List PyData
  | [] => []
  | x :: xs => nm x :: nmA xs
end
theorem nmA_map : ∀ xs : List PyData, nmA xs = xs.map nm
  | [] => by simp only [nmA, List.map_nil]
  | x :: xs => by simp only [nmA, List.map_cons, nmA_map xs]
/-- a tuple's items, marked or not -/
def opn : PyData → Option (List PyData)
  | .tuple xs => some xs
  | .dict [(.tuple xs, .none)] => some xs
  | _ => none
section
variable {K : PySem.W.Frag}
theorem ints_dq {W : Hp} : ∀ k : List Int, DqAll K W (k.map V.int) (k.map PyData.int)
  | [] => .nil
  | i :: r => .cons (.int i) (ints_dq r)
theorem ints_dp {W : Hp} : ∀ k : List Int, DpAll K W (k.map V.int) (k.map PyData.int)
  | [] => .nil
  | i :: r => .cons (.int i) (ints_dp r)
mutual
theorem Dq.dp {H : Hp} : ∀ (d : PyData) (v : V), Dq K H v d → Dp K H v (nm d)
  | .none, _, r => by cases r; exact .non
  | .bool b, _, r => by cases r; exact .bl b
  | .int i, _, r => by cases r; exact .int i
  | .str x, _, r => by cases r; exact .str x
  | .list ds, _, r => by
    cases r with
    | lst s a =>
      rw [nm]
      exact .lst s (Dq.dpA ds _ a)
  | .tuple ds, _, r => by
    cases r with
    | tup s a =>
      rw [nm]
      exact .tup (sqT_up s) (Dq.dpA ds _ a)
  | .dict _, _, r => by
    cases r with
    | mk s =>
      rw [nm]
      exact .tup s (ints_dp _)
theorem Dq.dpA {H : Hp} : ∀ (ds : List PyData) (vs : List V), DqAll K H vs ds → DpAll K H vs (nmA ds)
  | [], _, r => by cases r; rw [nmA]; exact .nil
  | d :: ds, _, r => by
    cases r with
    | cons a b => rw [nmA]; exact .cons (Dq.dp d _ a) (Dq.dpA ds _ b)
end
mutual
theorem Dq.mono {H H' : Hp} (h : ∀ a o, H a = some o → H' a = some o) : ∀ (d : PyData) (v : V), Dq K H v d → Dq K H' v d
  | .none, _, r => by cases r; exact .non
  | .bool b, _, r => by cases r; exact .bl b
  | .int i, _, r => by cases r; exact .int i
  | .str x, _, r => by cases r; exact .str x
  | .list ds, _, r => by
    cases r with
    | lst s a => exact .lst (sqL_mono h s) (Dq.monoA h ds _ a)
  | .tuple ds, _, r => by
    cases r with
    | tup s a => exact .tup (sqT_mono h s) (Dq.monoA h ds _ a)
  | .dict _, _, r => by
    cases r with
    | mk s => exact .mk (sqT_mono h s)
theorem Dq.monoA {H H' : Hp} (h : ∀ a o, H a = some o → H' a = some o) : ∀ (ds : List PyData) (vs : List V), DqAll K H vs ds → DqAll K H' vs ds
  | [], _, r => by cases r; exact .nil
  | d :: ds, _, r => by
    cases r with
    | cons a b => exact .cons (Dq.mono h d _ a) (Dq.monoA h ds _ b)
end
theorem Dq.opn_inv {H : Hp} {v : V} {d : PyData} {xs : List PyData} (h : opn d = some xs) (r : Dq K H v d) : ∃ a vs, v = .ref a ∧ SqT K H a vs ∧ DqAll K H vs xs := by
  cases r with
  | tup s a => cases h; exact ⟨_, _, rfl, sqT_up s, a⟩
  | mk s => cases h; exact ⟨_, _, rfl, s, ints_dq _⟩
  | _ => cases h
theorem DqAll.length {H : Hp} : ∀ {ds : List PyData} {vs : List V}, DqAll K H vs ds → vs.length = ds.length
  | [], _, r => by cases r; rfl
  | d :: ds, _, r => by
    cases r with
    | cons a b => simp [DqAll.length b]
theorem DqAll.get {H : Hp} : ∀ {ds : List PyData} {vs : List V} {i : Nat} {d : PyData}, DqAll K H vs ds → ds[i]? = some d → ∃ v, vs[i]? = some v ∧ Dq K H v d
  | [], _, _, _, _, e => by simp at e
  | d :: ds, _, i, _, r, e => by
    cases r with
    | cons a b =>
      cases i with
      | zero => simp at e; subst e; exact ⟨_, rfl, a⟩
      | succ j =>
        obtain ⟨v, h1, h2⟩ := DqAll.get (i := j) b (by simpa using e)
        exact ⟨v, by simpa using h1, h2⟩
theorem DqAll.app {H : Hp} : ∀ {ds es : List PyData} {vs us : List V}, DqAll K H vs ds → DqAll K H us es → DqAll K H (vs ++ us) (ds ++ es)
  | [], _, _, _, r, s => by cases r; exact s
  | d :: ds, _, _, _, r, s => by
    cases r with
    | cons a b => exact .cons a (DqAll.app b s)

/-- a value stands for a datum -/
def RelD (K : PySem.W.Frag) (w : Wd) : D → V → Prop
  | .p x, v => Dq K w.W v x
  | .loc n, v => ∃ a, v = .ref a ∧ w.L[n]? = some a
theorem RelD.mono {w w' : Wd} (h : w.Lc w') : ∀ {d : D} {v : V}, RelD K w d v → RelD K w' d v
  | .p _, _, r => Dq.mono h.W _ _ r
  | .loc _, _, ⟨a, e, g⟩ => ⟨a, e, h.get g⟩
inductive RelL (K : PySem.W.Frag) (w : Wd) : List D → List V → Prop
  | nil : RelL K w [] []
  | cons {d : D} {ds : List D} {v : V} {vs : List V} : RelD K w d v → RelL K w ds vs → RelL K w (d :: ds) (v :: vs)
theorem RelL.mono {w w' : Wd} (h : w.Lc w') : ∀ {ds : List D} {vs : List V}, RelL K w ds vs → RelL K w' ds vs
  | _, _, .nil => .nil
  | _, _, .cons a b => .cons (a.mono h) (RelL.mono h b)
theorem RelL.length {w : Wd} : ∀ {ds : List D} {vs : List V}, RelL K w ds vs → ds.length = vs.length
  | _, _, .nil => rfl
  | _, _, .cons _ b => by simp [RelL.length b]
theorem RelL.get {w : Wd} : ∀ {ds : List D} {vs : List V} {i : Nat} {d : D}, RelL K w ds vs → ds[i]? = some d → ∃ v, vs[i]? = some v ∧ RelD K w d v
  | _, _, _, _, .nil, e => by simp at e
  | _, _, 0, _, .cons a b, e => by simp at e; subst e; exact ⟨_, rfl, a⟩
  | _, _, i + 1, _, .cons a b, e => by
    obtain ⟨v, h1, h2⟩ := RelL.get (i := i) b (by simpa using e)
    exact ⟨v, by simpa using h1, h2⟩
theorem RelL.get' {w : Wd} : ∀ {ds : List D} {vs : List V} {i : Nat} {v : V}, RelL K w ds vs → vs[i]? = some v → ∃ d, ds[i]? = some d ∧ RelD K w d v
  | _, _, _, _, .nil, e => by simp at e
  | _, _, 0, _, .cons a b, e => by simp at e; subst e; exact ⟨_, rfl, a⟩
  | _, _, i + 1, _, .cons a b, e => by
    obtain ⟨v, h1, h2⟩ := RelL.get' (i := i) b (by simpa using e)
    exact ⟨v, by simpa using h1, h2⟩
theorem RelL.app {w : Wd} : ∀ {ds es : List D} {vs us : List V}, RelL K w ds vs → RelL K w es us → RelL K w (ds ++ es) (vs ++ us)
  | _, _, _, _, .nil, s => s
  | _, _, _, _, .cons a b, s => .cons a (RelL.app b s)
theorem RelL.of {w : Wd} : ∀ {ds : List PyData} {vs : List V}, DqAll K w.W vs ds → RelL K w (ds.map D.p) vs
  | [], _, r => by cases r; exact .nil
  | d :: ds, _, r => by
    cases r with
    | cons a b => exact .cons a (RelL.of b)
theorem RelL.pure {w : Wd} : ∀ {ds : List PyData} {vs : List V}, RelL K w (ds.map D.p) vs → DqAll K w.W vs ds
  | [], _, r => by cases r; exact .nil
  | d :: ds, _, r => by
    cases r with
    | cons a b => exact .cons a (RelL.pure b)

/-- a mutable object as the abstract heap has it -/
def RelO (K : PySem.W.Frag) (P : Program) (ww : World) (w : Wd) : Ob → Addr → HO → Prop
  | .lst ds, _, o => ∃ vs, o = .lst vs ∧ RelL K w ds vs
  | .dT kvs, _, o => ∃ vs, o = .dT vs ∧ vs.map (·.1) = kvs.map (·.1) ∧ RelL K w (kvs.map fun q => .p q.2) (vs.map (·.2))
  | .dK kvs, _, o => ∃ vs, o = .dK vs ∧ vs.map (·.1) = kvs.map (·.1) ∧ RelL K w (kvs.map fun q => .p q.2) (vs.map (·.2))
  | .set xs, a, o => ∃ L : List (Addr × List Int), o = SetTO P ww a L ∧ (∀ k, k ∈ L.map (·.2) ↔ k ∈ xs) ∧ ∀ p ∈ L, SqT (strip K) w.W p.1 (p.2.map V.int)
theorem RelO.mono {P : Program} {ww : World} {w w' : Wd} (h : w.Lc w') : ∀ {b : Ob} {a : Addr} {o : HO}, RelO K P ww w b a o → RelO K P ww w' b a o
  | .lst _, _, _, ⟨vs, e, r⟩ => ⟨vs, e, r.mono h⟩
  | .dT _, _, _, ⟨vs, e, k, r⟩ => ⟨vs, e, k, r.mono h⟩
  | .dK _, _, _, ⟨vs, e, k, r⟩ => ⟨vs, e, k, r.mono h⟩
  | .set _, _, _, ⟨L, e, k, r⟩ => ⟨L, e, k, fun p hp => sqT_mono h.W (r p hp)⟩
theorem RelO.notTup {P : Program} {ww : World} {w : Wd} : ∀ {b : Ob} {a : Addr} {o : HO}, RelO K P ww w b a o → ¬ (∃ xs, o = .tup xs) ∧ ¬ ∃ u x, o = .frz u x
  | .lst _, _, _, ⟨vs, e, r⟩ => by subst e; exact ⟨fun ⟨_, q⟩ => (nomatch q), fun ⟨_, _, q⟩ => (nomatch q)⟩
  | .dT _, _, _, ⟨vs, e, r⟩ => by subst e; exact ⟨fun ⟨_, q⟩ => (nomatch q), fun ⟨_, _, q⟩ => (nomatch q)⟩
  | .dK _, _, _, ⟨vs, e, r⟩ => by subst e; exact ⟨fun ⟨_, q⟩ => (nomatch q), fun ⟨_, _, q⟩ => (nomatch q)⟩
  | .set _, _, _, ⟨vs, e, r⟩ => by subst e; exact ⟨fun ⟨_, q⟩ => (nomatch q), fun ⟨_, _, q⟩ => (nomatch q)⟩
/-- the places that an object names stand ahead of it -/
def Wf1 (n : Nat) : Ob → Prop
  | .lst xs => ∀ j, D.loc j ∈ xs → j < n
  | _ => True
/-- the abstract heap holds the store -/
structure Hold (K : PySem.W.Frag) (P : Program) (ww : World) (w : Wd) (st : Sto) (H : Hp) : Prop where
  imm : ∀ a o, w.W a = some o → H a = some o ∧ ImmO o
  len : w.L.length = st.length
  obs : ∀ (n : Nat) (a : Addr) (b : Ob), w.L[n]? = some a → st[n]? = some b → ∃ o, H a = some o ∧ RelO K P ww w b a o
  nd : w.L.Nodup
  ap : ∀ a ∈ w.L, w.W a = none
  wf : ∀ (n : Nat) (b : Ob), st[n]? = some b → Wf1 n b
  tmp : ∀ a o, w.T a = some o → H a = some o
  tw : ∀ a o, w.T a = some o → w.W a = none ∧ a ∉ w.L
  tt : ∀ a xs, w.T a ≠ some (.tup xs)
end
end Fw
set_option Elab.async false
set_option linter.all false
set_option maxRecDepth 100000
set_option maxHeartbeats 4000000
namespace Fw
open PySem PySem.Spec PyProof.Rows L2

/-! ## holding: new objects -/
section
variable {K : PySem.W.Frag} {P : Program} {ww : World} {w : Wd} {st : Sto} {H : Hp}
theorem Hold.free (h : Hold K P ww w st H) {p : Addr} (n : H p = none) : w.W p = none := by
  cases q : w.W p with
  | none => rfl
  | some o => rw [(h.imm p o q).1] at n; cases n
theorem Hold.obj (h : Hold K P ww w st H) {p : Addr} (m : p ∈ w.L) : ∃ (n : Nat) (b : Ob) (o : HO), w.L[n]? = some p ∧ st[n]? = some b ∧ H p = some o ∧ RelO K P ww w b p o := by
  obtain ⟨n, e⟩ := List.mem_iff_getElem?.mp m
  have hl : n < st.length := by rw [← h.len]; exact (List.getElem?_eq_some_iff.mp e).1
  obtain ⟨o, h1, h2⟩ := h.obs n p st[n] e (by simp [hl])
  exact ⟨n, _, o, e, by simp [hl], h1, h2⟩
theorem Hold.notIn (h : Hold K P ww w st H) {p : Addr} (n : H p = none) : p ∉ w.L := fun m => by
  obtain ⟨_, _, o, _, _, q, _⟩ := h.obj m
  rw [n] at q; cases q
/-- a new object that stands still -/
def Wd.imm (w : Wd) (p : Addr) (o : HO) : Wd := ⟨upd w.W p o, w.L, w.T⟩
theorem Wd.le_imm {p : Addr} {o : HO} (n : w.W p = none) : w.Le (w.imm p o) := ⟨⟨fun a u e => by
  show upd w.W p o a = some u
  rw [upd_ne (ne_of_none e n)]; exact e, [], by simp [Wd.imm]⟩, rfl⟩
theorem Hold.imm_new (h : Hold K P ww w st H) {p : Addr} {o : HO} (n : H p = none) (i : ImmO o) : Hold K P ww (w.imm p o) st (upd H p o) := by
  have le := Wd.le_imm (w := w) (p := p) (o := o) (h.free n)
  refine ⟨fun a u e => ?_, h.len, fun k a b e1 e2 => ?_, h.nd, fun a m => ?_, h.wf, fun a u e => by rw [upd_ne (ne_of_none (h.tmp a u e) n)]; exact h.tmp a u e, fun a u e => ⟨by
    show upd w.W p o a = none
    rw [upd_ne (ne_of_none (h.tmp a u e) n)]; exact (h.tw a u e).1, (h.tw a u e).2⟩, h.tt⟩
  · by_cases q : a = p
    · subst q
      have e' : upd w.W a o a = some u := e
      rw [upd_same] at e'; cases e'
      exact ⟨upd_same, i⟩
    · have e' : upd w.W p o a = some u := e
      rw [upd_ne q] at e'
      rw [upd_ne q]
      exact h.imm a u e'
  · have e1' : w.L[k]? = some a := e1
    obtain ⟨u, h1, h2⟩ := h.obs k a b e1' e2
    exact ⟨u, by rw [upd_ne (ne_of_none h1 n)]; exact h1, h2.mono le⟩
  · have m' : a ∈ w.L := m
    have na : a ≠ p := fun q => h.notIn n (q ▸ m')
    show upd w.W p o a = none
    rw [upd_ne na]
    exact h.ap a m'
/-- a new mutable object -/
def Wd.mut (w : Wd) (p : Addr) : Wd := ⟨w.W, w.L ++ [p], w.T⟩
theorem Wd.le_mut {p : Addr} : w.Le (w.mut p) := ⟨⟨fun _ _ e => e, [p], rfl⟩, rfl⟩
theorem Hold.mut_new (h : Hold K P ww w st H) {p : Addr} {o : HO} {b : Ob} (n : H p = none) (r : RelO K P ww w b p o) (wf : Wf1 st.length b) : Hold K P ww (w.mut p) (st ++ [b]) (upd H p o) := by
  have le := Wd.le_mut (w := w) (p := p)
  refine ⟨fun a u e => ?_, by simp [Wd.mut, h.len], fun k a b' e1 e2 => ?_, ?_, fun a m => ?_, fun k b' e => ?_, fun a u e => by rw [upd_ne (ne_of_none (h.tmp a u e) n)]; exact h.tmp a u e, fun a u e => ⟨(h.tw a u e).1, fun m => ?_⟩, h.tt⟩
  · obtain ⟨e1, e2⟩ := h.imm a u e
    exact ⟨by rw [upd_ne (ne_of_none e1 n)]; exact e1, e2⟩
  · have e1' : (w.L ++ [p])[k]? = some a := e1
    by_cases q : k < st.length
    · rw [List.getElem?_append_left (by rw [h.len]; exact q)] at e1'
      rw [List.getElem?_append_left q] at e2
      obtain ⟨u, h1, h2⟩ := h.obs k a b' e1' e2
      exact ⟨u, by rw [upd_ne (ne_of_none h1 n)]; exact h1, h2.mono le⟩
    · have hk : k = st.length := by
        have := (List.getElem?_eq_some_iff.mp e2).1
        simp at this; omega
      subst hk
      rw [List.getElem?_append_right (Nat.le_refl _)] at e2
      rw [← h.len, List.getElem?_append_right (Nat.le_refl _)] at e1'
      simp at e1' e2
      subst e1' e2
      exact ⟨o, upd_same, r.mono le⟩
  · show (w.L ++ [p]).Nodup
    rw [List.nodup_append]
    refine ⟨h.nd, by simp, fun a ha b hb => ?_⟩
    simp at hb
    subst hb
    exact fun e => h.notIn n (e ▸ ha)
  · have m' : a ∈ w.L ++ [p] := m
    rcases List.mem_append.mp m' with m' | m'
    · exact h.ap a m'
    · simp at m'; subst m'; exact h.free n
  · by_cases q : k < st.length
    · rw [List.getElem?_append_left q] at e
      exact h.wf k b' e
    · have hk : k = st.length := by
        have := (List.getElem?_eq_some_iff.mp e).1
        simp at this; omega
      subst hk
      rw [List.getElem?_append_right (Nat.le_refl _)] at e
      simp at e
      subst e
      exact wf
  · have m' : a ∈ w.L ++ [p] := m
    rcases List.mem_append.mp m' with m' | m'
    · exact (h.tw a u e).2 m'
    · simp at m'
      exact ne_of_none (h.tmp a u e) n m'
/-- a mutable object written -/
theorem Hold.write (h : Hold K P ww w st H) {n : Nat} {a : Addr} {o : HO} {b : Ob} (e : w.L[n]? = some a) (r : RelO K P ww w b a o) (wf : Wf1 n b) : Hold K P ww w (st.set n b) (upd H a o) := by
  have hn : n < st.length := by rw [← h.len]; exact (List.getElem?_eq_some_iff.mp e).1
  have ma : a ∈ w.L := List.mem_of_getElem? e
  refine ⟨fun c u q => ?_, by simp [h.len], fun k c b' e1 e2 => ?_, h.nd, h.ap, fun k b' q => ?_, fun c u q => by rw [upd_ne (show c ≠ a from fun z => (h.tw c u q).2 (by rw [z]; exact ma))]; exact h.tmp c u q, h.tw, h.tt⟩
  · obtain ⟨e1, e2⟩ := h.imm c u q
    have nc : c ≠ a := fun z => by
      subst z
      rw [h.ap c ma] at q; cases q
    exact ⟨by rw [upd_ne nc]; exact e1, e2⟩
  · by_cases q : k = n
    · subst q
      rw [e] at e1; cases e1
      rw [List.getElem?_set_self hn] at e2; cases e2
      exact ⟨o, upd_same, r⟩
    · rw [List.getElem?_set_ne (Ne.symm q)] at e2
      obtain ⟨u, h1, h2⟩ := h.obs k c b' e1 e2
      have nc : c ≠ a := fun z => by
        subst z
        have h1' := (List.getElem?_eq_some_iff.mp e1)
        have h2' := (List.getElem?_eq_some_iff.mp e)
        exact q ((List.getElem_inj h.nd).mp (h1'.2.trans h2'.2.symm))
      exact ⟨u, by rw [upd_ne nc]; exact h1, h2⟩
  · by_cases z : k = n
    · subst z
      rw [List.getElem?_set_self hn] at q; cases q
      exact wf
    · rw [List.getElem?_set_ne (Ne.symm z)] at q
      exact h.wf k b' q
/-- a temporary object: laid, written, kept -/
def Wd.tmp (w : Wd) (t : Hp) : Wd := ⟨w.W, w.L, t⟩
theorem Wd.lc_tmp {t : Hp} : w.Lc (w.tmp t) := ⟨fun _ _ e => e, [], by simp [Wd.tmp]⟩
theorem Wd.tmp_lc {t : Hp} : (w.tmp t).Lc w := ⟨fun _ _ e => e, [], by simp [Wd.tmp]⟩
theorem Hold.tmp_new (h : Hold K P ww w st H) {p : Addr} {o : HO} (n : H p = none) (no : ∀ xs, o ≠ .tup xs) : Hold K P ww (w.tmp (upd w.T p o)) st (upd H p o) := by
  refine ⟨fun a u e => ?_, h.len, fun k a b e1 e2 => ?_, h.nd, h.ap, h.wf, fun a u e => ?_, fun a u e => ?_, fun a xs e => by
    by_cases q : a = p
    · subst q
      have e' : upd w.T a o a = some (.tup xs) := e
      rw [upd_same] at e'
      exact no xs (Option.some.inj e')
    · have e' : upd w.T p o a = some (.tup xs) := e
      rw [upd_ne q] at e'
      exact h.tt a xs e'⟩
  · obtain ⟨e1, e2⟩ := h.imm a u e
    exact ⟨by rw [upd_ne (ne_of_none e1 n)]; exact e1, e2⟩
  · obtain ⟨u, h1, h2⟩ := h.obs k a b e1 e2
    exact ⟨u, by rw [upd_ne (ne_of_none h1 n)]; exact h1, h2.mono Wd.lc_tmp⟩
  · by_cases q : a = p
    · subst q
      have e' : upd w.T a o a = some u := e
      rw [upd_same] at e'; cases e'
      exact upd_same
    · have e' : upd w.T p o a = some u := e
      rw [upd_ne q] at e'
      rw [upd_ne q]
      exact h.tmp a u e'
  · by_cases q : a = p
    · subst q
      exact ⟨h.free n, h.notIn n⟩
    · have e' : upd w.T p o a = some u := e
      rw [upd_ne q] at e'
      exact h.tw a u e'
theorem Hold.tmp_set (h : Hold K P ww w st H) {p : Addr} {o o' : HO} (n : w.T p = some o) (no : ∀ xs, o' ≠ .tup xs) : Hold K P ww (w.tmp (upd w.T p o')) st (upd H p o') := by
  have hp := h.tw p o n
  refine ⟨fun a u e => ?_, h.len, fun k a b e1 e2 => ?_, h.nd, h.ap, h.wf, fun a u e => ?_, fun a u e => ?_, fun a xs e => by
    by_cases q : a = p
    · subst q
      have e' : upd w.T a o' a = some (.tup xs) := e
      rw [upd_same] at e'
      exact no xs (Option.some.inj e')
    · have e' : upd w.T p o' a = some (.tup xs) := e
      rw [upd_ne q] at e'
      exact h.tt a xs e'⟩
  · obtain ⟨e1, e2⟩ := h.imm a u e
    have e' : w.W a = some u := e
    have na : a ≠ p := fun z => by
      subst z
      rw [hp.1] at e'; cases e'
    exact ⟨by rw [upd_ne na]; exact e1, e2⟩
  · obtain ⟨u, h1, h2⟩ := h.obs k a b e1 e2
    have na : a ≠ p := fun z => hp.2 (z ▸ List.mem_of_getElem? e1)
    exact ⟨u, by rw [upd_ne na]; exact h1, h2.mono Wd.lc_tmp⟩
  · by_cases q : a = p
    · subst q
      have e' : upd w.T a o' a = some u := e
      rw [upd_same] at e'; cases e'
      exact upd_same
    · have e' : upd w.T p o' a = some u := e
      rw [upd_ne q] at e'
      rw [upd_ne q]
      exact h.tmp a u e'
  · by_cases q : a = p
    · subst q
      exact hp
    · have e' : upd w.T p o' a = some u := e
      rw [upd_ne q] at e'
      exact h.tw a u e'
/-- the temporary object becomes one that stands still -/
def Wd.fix (w : Wd) (p : Addr) (o : HO) (t : Hp) : Wd := ⟨upd w.W p o, w.L, t⟩
theorem Hold.tmp_imm (h : Hold K P ww w st H) {p : Addr} {o : HO} {t : Hp} (n : w.T p = some o) (i : ImmO o) (ht : ∀ a u, t a = some u → w.T a = some u ∧ a ≠ p) : Hold K P ww (w.fix p o t) st H := by
  have hp := h.tw p o n
  have le : w.Lc (w.fix p o t) := ⟨fun a u e => by
    show upd w.W p o a = some u
    rw [upd_ne (ne_of_none e hp.1)]; exact e, [], by simp [Wd.fix]⟩
  refine ⟨fun a u e => ?_, h.len, fun k a b e1 e2 => ?_, h.nd, fun a m => ?_, h.wf, fun a u e => h.tmp a u (ht a u e).1, fun a u e => ⟨?_, (h.tw a u (ht a u e).1).2⟩, fun a xs e => h.tt a xs (ht a _ e).1⟩
  · by_cases q : a = p
    · subst q
      have e' : upd w.W a o a = some u := e
      rw [upd_same] at e'; cases e'
      exact ⟨h.tmp a o n, i⟩
    · have e' : upd w.W p o a = some u := e
      rw [upd_ne q] at e'
      exact h.imm a u e'
  · obtain ⟨u, h1, h2⟩ := h.obs k a b e1 e2
    exact ⟨u, h1, h2.mono le⟩
  · have m' : a ∈ w.L := m
    show upd w.W p o a = none
    rw [upd_ne (show a ≠ p from fun z => hp.2 (by rw [← z]; exact m'))]
    exact h.ap a m'
  · show upd w.W p o a = none
    rw [upd_ne (ht a u e).2]
    exact (h.tw a u (ht a u e).1).1
/-- the temporary object becomes a mutable one of the store -/
def Wd.put (w : Wd) (p : Addr) (t : Hp) : Wd := ⟨w.W, w.L ++ [p], t⟩
theorem Hold.tmp_mut (h : Hold K P ww w st H) {p : Addr} {o : HO} {b : Ob} {t : Hp} (n : w.T p = some o) (r : RelO K P ww w b p o) (wf : Wf1 st.length b) (ht : ∀ a u, t a = some u → w.T a = some u ∧ a ≠ p) : Hold K P ww (w.put p t) (st ++ [b]) H := by
  have hp := h.tw p o n
  have le : w.Lc (w.put p t) := ⟨fun _ _ e => e, [p], rfl⟩
  refine ⟨fun a u e => h.imm a u e, by simp [Wd.put, h.len], fun k a b' e1 e2 => ?_, ?_, fun a m => ?_, fun k b' e => ?_, fun a u e => h.tmp a u (ht a u e).1, fun a u e => ⟨(h.tw a u (ht a u e).1).1, fun m => ?_⟩, fun a xs e => h.tt a xs (ht a _ e).1⟩
  · have e1' : (w.L ++ [p])[k]? = some a := e1
    by_cases q : k < st.length
    · rw [List.getElem?_append_left (by rw [h.len]; exact q)] at e1'
      rw [List.getElem?_append_left q] at e2
      obtain ⟨u, h1, h2⟩ := h.obs k a b' e1' e2
      exact ⟨u, h1, h2.mono le⟩
    · have hk : k = st.length := by
        have := (List.getElem?_eq_some_iff.mp e2).1
        simp at this; omega
      subst hk
      rw [List.getElem?_append_right (Nat.le_refl _)] at e2
      rw [← h.len, List.getElem?_append_right (Nat.le_refl _)] at e1'
      simp at e1' e2
      subst e1' e2
      exact ⟨o, h.tmp _ _ n, r.mono le⟩
  · show (w.L ++ [p]).Nodup
    rw [List.nodup_append]
    refine ⟨h.nd, by simp, fun a ha b hb => ?_⟩
    simp at hb
    subst hb
    exact fun e => hp.2 (e ▸ ha)
  · have m' : a ∈ w.L ++ [p] := m
    rcases List.mem_append.mp m' with m' | m'
    · exact h.ap a m'
    · simp at m'; subst m'; exact hp.1
  · by_cases q : k < st.length
    · rw [List.getElem?_append_left q] at e
      exact h.wf k b' e
    · have hk : k = st.length := by
        have := (List.getElem?_eq_some_iff.mp e).1
        simp at this; omega
      subst hk
      rw [List.getElem?_append_right (Nat.le_refl _)] at e
      simp at e
      subst e
      exact wf
  · have m' : a ∈ w.L ++ [p] := m
    rcases List.mem_append.mp m' with m' | m'
    · exact (h.tw a u (ht a u e).1).2 m'
    · simp at m'
      exact (ht a u e).2 m'
theorem Hold.wd (h : Hold K P ww w st H) {a : Addr} {o : HO} (e : w.W a = some o) : H a = some o := (h.imm a o e).1
theorem Hold.dp (h : Hold K P ww w st H) {d : PyData} {v : V} (r : Dq K w.W v d) : Dq K H v d := Dq.mono (fun _ _ e => h.wd e) d v r
theorem Hold.dpA (h : Hold K P ww w st H) {d : List PyData} {v : List V} (r : DqAll K w.W v d) : DqAll K H v d := Dq.monoA (fun _ _ e => h.wd e) d v r
end

/-! ## the newest objects forgotten -/
def Wd.trunc (w : Wd) (n : Nat) : Wd := ⟨w.W, w.L.take n, w.T⟩
theorem RelL.trunc {K : PySem.W.Frag} {w : Wd} {k n : Nat} (h : k ≤ n) : ∀ {ds : List D} {vs : List V}, (∀ j, D.loc j ∈ ds → j < k) → RelL K w ds vs → RelL K (w.trunc n) ds vs
  | _, _, _, .nil => .nil
  | d :: ds, _, hw, .cons a b => by
    refine .cons ?_ (RelL.trunc h (fun j m => hw j (List.mem_cons_of_mem _ m)) b)
    cases d with
    | p x => exact a
    | loc j =>
      obtain ⟨c, e, g⟩ := a
      refine ⟨c, e, ?_⟩
      have := hw j List.mem_cons_self
      show (w.L.take n)[j]? = some c
      rw [List.getElem?_take_of_lt (by omega)]
      exact g
theorem no_loc {β : Type} {f : β → PyData} {xs : List β} {k : Nat} : ∀ j, D.loc j ∈ xs.map (fun x => D.p (f x)) → j < k := fun j m => by
  obtain ⟨_, _, e⟩ := List.mem_map.mp m
  cases e
theorem RelO.trunc {K : PySem.W.Frag} {P : Program} {ww : World} {w : Wd} {k n : Nat} (h : k ≤ n) : ∀ {b : Ob} {a : Addr} {o : HO}, Wf1 k b → RelO K P ww w b a o → RelO K P ww (w.trunc n) b a o
  | .lst _, _, _, hw, ⟨vs, e, r⟩ => ⟨vs, e, RelL.trunc h hw r⟩
  | .dT _, _, _, _, ⟨vs, e, q, r⟩ => ⟨vs, e, q, RelL.trunc h no_loc r⟩
  | .dK _, _, _, _, ⟨vs, e, q, r⟩ => ⟨vs, e, q, RelL.trunc h no_loc r⟩
  | .set _, _, _, _, ⟨L, e, q, r⟩ => ⟨L, e, q, r⟩
theorem Hold.trunc {K : PySem.W.Frag} {P : Program} {ww : World} {w : Wd} {st : Sto} {H : Hp} (h : Hold K P ww w st H) (n : Nat) : Hold K P ww (w.trunc n) (st.take n) H := by
  refine ⟨h.imm, ?_, fun k a b e1 e2 => ?_, ?_, fun a m => h.ap a (List.mem_of_mem_take m), fun k b e => ?_, h.tmp, fun a o e => ⟨(h.tw a o e).1, fun m => (h.tw a o e).2 (List.mem_of_mem_take m)⟩, h.tt⟩
  · show (w.L.take n).length = _
    rw [List.length_take, List.length_take, h.len]
  · have e1' : (w.L.take n)[k]? = some a := e1
    by_cases q : k < n
    · rw [List.getElem?_take_of_lt q] at e1' e2
      obtain ⟨o, h1, h2⟩ := h.obs k a b e1' e2
      exact ⟨o, h1, RelO.trunc (by omega) (h.wf k b e2) h2⟩
    · rw [List.getElem?_eq_none (by rw [List.length_take]; omega)] at e2
      cases e2
  · exact List.Sublist.nodup (List.take_sublist _ _) h.nd
  · by_cases q : k < n
    · rw [List.getElem?_take_of_lt q] at e
      exact h.wf k b e
    · rw [List.getElem?_eq_none (by rw [List.length_take]; omega)] at e
      cases e
theorem Wd.le_trunc {w w' : Wd} {n : Nat} (h : w.Le w') (e : w.L.length = n) : w.Le (w'.trunc n) := ⟨⟨h.W, [], by
  obtain ⟨l, q⟩ := h.L
  show w'.L.take n = w.L ++ []
  rw [q, ← e, List.take_left, List.append_nil]⟩, h.T⟩
/-! ## what a value is worth as data (a mutable list of data too) -/
def pures : List D → Option (List PyData)
  | [] => some []
  | .p x :: r => (pures r).map (x :: ·)
  | .loc _ :: _ => none
theorem pures_eq : ∀ {ds : List D} {xs : List PyData}, pures ds = some xs → ds = xs.map D.p
  | [], xs, h => by
    have e : ([] : List PyData) = xs := Option.some.inj h
    subst e; rfl
  | .p x :: r, xs, h => by
    have h' : (pures r).map (x :: ·) = some xs := h
    cases q : pures r with
    | none => rw [q] at h'; cases h'
    | some ys =>
      rw [q] at h'
      have e : x :: ys = xs := Option.some.inj h'
      subst e
      rw [pures_eq q]; rfl
  | .loc _ :: _, _, h => by cases h
theorem pures_map (xs : List PyData) : pures (xs.map D.p) = some xs := by
  induction xs with
  | nil => rfl
  | cons x r ih => show (pures (r.map D.p)).map (x :: ·) = _; rw [ih]; rfl
def view : Nat → D → Sto → Option PyData
  | _, .p x, _ => some x
  | 0, .loc _, _ => none
  | k + 1, .loc n, st => match st[n]? with
    | some (.lst ds) => (ds.mapM fun d => view k d st).map .list
    | _ => none
def vw (d : D) (st : Sto) : Option PyData := view 3 d st
theorem vw_p {x : PyData} {st : Sto} : vw (.p x) st = some x := rfl
section
variable {K : PySem.W.Frag} {P : Program} {ww : World} {w : Wd} {st : Sto} {H : Hp}
theorem view_ok (h : Hold K P ww w st H) : ∀ (k : Nat) {d : D} {v : V} {x : PyData}, RelD K w d v → view k d st = some x → Dq K H v x := by
  intro k
  induction k with
  | zero =>
    intro d v x r e
    cases d with
    | p y => cases e; exact h.dp r
    | loc n => cases e
  | succ k ih =>
    intro d v x r e
    cases d with
    | p y => cases e; exact h.dp r
    | loc n =>
      obtain ⟨a, rfl, ha⟩ := r
      have e' : (match st[n]? with
        | some (.lst ds) => (ds.mapM fun d => view k d st).map .list
        | _ => none) = some x := e
      cases q : st[n]? with
      | none => rw [q] at e'; cases e'
      | some b =>
        rw [q] at e'
        cases b with
        | lst ds =>
          obtain ⟨o, ho, vs, rfl, rl⟩ := h.obs n a _ ha q
          have e2 : (ds.mapM fun d => view k d st).map PyData.list = some x := e'
          cases q2 : (ds.mapM fun d => view k d st) with
          | none => rw [q2] at e2; cases e2
          | some xs =>
            rw [q2] at e2
            have e3 : PyData.list xs = x := Option.some.inj e2
            subst e3
            refine .lst (SqL.of ho) ?_
            clear e e' e2 q ho
            induction rl generalizing xs with
            | nil =>
              have : xs = [] := by
                simpa using q2
              subst this; exact .nil
            | cons r1 r2 ih2 =>
              rw [List.mapM_cons] at q2
              simp only [Option.bind_eq_bind, Option.bind_eq_some_iff, Option.pure_def] at q2
              obtain ⟨y, hy, ys, hys, e4⟩ := q2
              cases e4
              exact .cons (ih r1 hy) (ih2 _ hys)
        | dT _ => cases e'
        | dK _ => cases e'
        | set _ => cases e'
theorem vw_ok (h : Hold K P ww w st H) {d : D} {v : V} {x : PyData} (r : RelD K w d v) (e : vw d st = some x) : Dq K H v x := view_ok h 3 r e
def vws (ds : List D) (st : Sto) : Option (List PyData) := ds.mapM fun d => vw d st
theorem vws_ok (h : Hold K P ww w st H) : ∀ {ds : List D} {vs : List V} {xs : List PyData}, RelL K w ds vs → vws ds st = some xs → DqAll K H vs xs
  | _, _, xs, .nil, e => by
    have : xs = [] := by unfold vws at e; simpa using e
    subst this; exact .nil
  | _, _, xs, .cons r1 r2, e => by
    unfold vws at e
    rw [List.mapM_cons] at e
    simp only [Option.bind_eq_bind, Option.bind_eq_some_iff, Option.pure_def] at e
    obtain ⟨y, hy, ys, hys, e4⟩ := e
    cases e4
    exact .cons (vw_ok h r1 hy) (vws_ok h r2 hys)
end
/-- rows that stand in the heap are taken up -/
theorem Hold.adopt {K : PySem.W.Frag} {P : Program} {ww : World} {w : Wd} {st : Sto} {H : Hp} (h : Hold K P ww w st H) (S : Addr → Prop) (hS : ∀ a, S a → ∃ xs, H a = some (.tup xs)) :
    ∃ w' : Wd, w.Le w' ∧ Hold K P ww w' st H ∧ ∀ a xs, S a → H a = some (.tup xs) → w'.W a = some (.tup xs) := by
  classical
  let W' : Hp := fun a => if S a then H a else w.W a
  have le : w.Le ⟨W', w.L, w.T⟩ := ⟨⟨fun a o e => by
    show (if S a then H a else w.W a) = some o
    by_cases q : S a
    · rw [if_pos q]; exact (h.imm a o e).1
    · rw [if_neg q]; exact e, [], by simp⟩, rfl⟩
  refine ⟨⟨W', w.L, w.T⟩, le, ⟨fun a o e => ?_, h.len, fun n a b e1 e2 => ?_, h.nd, fun a m => ?_, h.wf, h.tmp, fun a o e => ⟨?_, (h.tw a o e).2⟩, h.tt⟩, fun a xs q e => ?_⟩
  · have e' : (if S a then H a else w.W a) = some o := e
    by_cases q : S a
    · rw [if_pos q] at e'
      obtain ⟨xs, hx⟩ := hS a q
      rw [hx] at e'
      cases e'
      exact ⟨hx, True.intro⟩
    · rw [if_neg q] at e'
      exact h.imm a o e'
  · obtain ⟨o, h1, h2⟩ := h.obs n a b e1 e2
    exact ⟨o, h1, h2.mono le.toLc⟩
  · show (if S a then H a else w.W a) = none
    by_cases q : S a
    · obtain ⟨xs, hx⟩ := hS a q
      obtain ⟨n, hn⟩ := List.mem_iff_getElem?.mp m
      have hl : n < st.length := by rw [← h.len]; exact (List.getElem?_eq_some_iff.mp hn).1
      obtain ⟨o, h1, h2⟩ := h.obs n a st[n] hn (List.getElem?_eq_getElem hl)
      rw [hx] at h1
      cases h1
      exact absurd ⟨xs, rfl⟩ h2.notTup.1
    · rw [if_neg q]; exact h.ap a m
  · show (if S a then H a else w.W a) = none
    by_cases q : S a
    · obtain ⟨xs, hx⟩ := hS a q
      have := h.tmp a o e
      rw [hx] at this
      cases this
      exact absurd e (h.tt a xs)
    · rw [if_neg q]; exact (h.tw a o e).1
  · show (if S a then H a else w.W a) = some (.tup xs)
    rw [if_pos q]; exact e
end Fw
set_option Elab.async false
set_option linter.all false
set_option maxRecDepth 100000
set_option maxHeartbeats 4000000
namespace Fw
open PySem PySem.Spec PyProof.Rows L2

/-! ## readings by computations -/
structure Kx where
  K : PySem.W.Frag
  P : Program
  ww : World
  ex : Nat → Addr
abbrev kxOf (X : Cx) (ex : Nat → Addr) : Kx := ⟨X.K, X.prog, X.w, ex⟩
abbrev HoldK (κ : Kx) (w : Wd) (st : Sto) (H : Hp) : Prop := Hold κ.K κ.P κ.ww w st H
def RelE (κ : Kx) (w : Wd) (env : Env') (σ : L2.St) : Prop := env.length = σ.length ∧ ∀ (i : Nat) (d : D), env[i]? = some (some d) → ∃ v, σ[i]? = some (some v) ∧ RelD κ.K w d v
theorem RelE.mono {κ : Kx} {w w' : Wd} {env : Env'} {σ : L2.St} (h : w.Lc w') (r : RelE κ w env σ) : RelE κ w' env σ := ⟨r.1, fun i d e => by
  obtain ⟨v, h1, h2⟩ := r.2 i d e
  exact ⟨v, h1, h2.mono h⟩⟩
/-- what is wanted behind a computation -/
def PostG (κ : Kx) (Wx : WX) (σ : L2.St) {β : Type} (w : Wd) (r : R β) (C : β → Sto → Wd → Hp → Prop) : Prop := match r with
  | .ok b st => ∀ w' H, w.Le w' → HoldK κ w' st H → C b st w' H
  | .exc c st => ∀ w' H, w.Le w' → HoldK κ w' st H → Wx (.ref (κ.ex c)) none σ H
  | .bad => False
section
variable {κ : Kx} {Wx : WX} {σ : L2.St} {α β : Type} {w : Wd}
theorem PostG.imp {r : R β} {C C' : β → Sto → Wd → Hp → Prop} (h : PostG κ Wx σ w r C) (q : ∀ b st' w' H', w.Le w' → HoldK κ w' st' H' → C b st' w' H' → C' b st' w' H') : PostG κ Wx σ w r C' := by
  cases r with
  | ok b st => exact fun w' H le hh => q b st w' H le hh (h w' H le hh)
  | exc c st => exact h
  | bad => exact h
theorem PostG.anti {w1 : Wd} {r : R β} {C : β → Sto → Wd → Hp → Prop} (le : w.Le w1) (h : PostG κ Wx σ w r C) : PostG κ Wx σ w1 r C := by
  cases r with
  | ok b st => exact fun w' H le' hh => h w' H (le.trans le') hh
  | exc c st => exact fun w' H le' hh => h w' H (le.trans le') hh
  | bad => exact h
theorem PostG.bnd {m : M α} {f : α → M β} {st : Sto} {C : β → Sto → Wd → Hp → Prop} (h : PostG κ Wx σ w (bnd m f st) C) : PostG κ Wx σ w (m st) fun b st1 w1 _ => PostG κ Wx σ w1 (f b st1) C := by
  unfold Fw.bnd at h
  cases q : m st with
  | ok b st1 =>
    rw [q] at h
    exact fun w' H le hh => PostG.anti le h
  | exc c st1 =>
    rw [q] at h
    exact h
  | bad =>
    rw [q] at h
    exact h
theorem PostG.ret {b : β} {st : Sto} {H : Hp} {C : β → Sto → Wd → Hp → Prop} (hh : HoldK κ w st H) (h : PostG κ Wx σ w (ret b st) C) : C b st w H := h w H (Wd.Le.refl w) hh
end
/-- a value is handed on -/
abbrev CV (κ : Kx) (Q : VK) : D → Sto → Wd → Hp → Prop := fun d _ w' H' => ∀ v, RelD κ.K w' d v → Q v H'
abbrev CB (Q : Bool → Hp → Prop) : Bool → Sto → Wd → Hp → Prop := fun b _ _ H' => Q b H'
abbrev CL (κ : Kx) (Q : List V → Hp → Prop) : List D → Sto → Wd → Hp → Prop := fun ds _ w' H' => ∀ vs, RelL κ.K w' ds vs → Q vs H'
def rdE (κ : Kx) (m : Env' → M D) (Wx : WX) : TE := fun σ H Q => ∃ w env st, RelE κ w env σ ∧ HoldK κ w st H ∧ PostG κ Wx σ w (m env st) (CV κ Q)
def rdT (κ : Kx) (m : Env' → M Bool) (Wx : WX) : TT := fun σ H Q => ∃ w env st, RelE κ w env σ ∧ HoldK κ w st H ∧ PostG κ Wx σ w (m env st) (CB Q)
def rdA (κ : Kx) (m : Env' → M (List D)) (Wx : WX) : TA := fun σ H Q => ∃ w env st, RelE κ w env σ ∧ HoldK κ w st H ∧ PostG κ Wx σ w (m env st) (CL κ Q)

theorem _root_.L2.PE.wk {X : Cx} {e : Expr} {t t' : TE} (h : PE X e t) (q : ∀ σ H Q, t' σ H Q → t σ H Q) : PE X e t' := ⟨fun pins s σ H Q I hw => h.run pins s σ H Q I (q σ H Q hw)⟩
theorem _root_.L2.PT.wk {X : Cx} {e : Expr} {t t' : TT} (h : PT X e t) (q : ∀ σ H Q, t' σ H Q → t σ H Q) : PT X e t' := ⟨fun pins s σ H Q I hw => h.run pins s σ H Q I (q σ H Q hw)⟩
theorem _root_.L2.PW.wk {X : Cx} {e : Expr} {t t' : TT} (h : PW X e t) (q : ∀ σ H Q, t' σ H Q → t σ H Q) : PW X e t' := ⟨fun wh pins s σ H Q I hw => h.run wh pins s σ H Q I (q σ H Q hw)⟩
theorem _root_.L2.PA.wk {X : Cx} {e : List Expr} {t t' : TA} (h : PA X e t) (q : ∀ σ H Q, t' σ H Q → t σ H Q) : PA X e t' := ⟨fun pos pins s σ H Q I hw => h.run pos pins s σ H Q I (q σ H Q hw)⟩
theorem _root_.L2.PS.wk {X : Cx} {e : Stmt} {t t' : TS} (h : PS X e t) (q : ∀ D σ H, t' D σ H → t D σ H) : PS X e t' := ⟨fun pins s σ H D I hw => h.run pins s σ H D I (q D σ H hw)⟩
theorem _root_.L2.PSs.wk {X : Cx} {e : List Stmt} {t t' : TS} (h : PSs X e t) (q : ∀ D σ H, t' D σ H → t D σ H) : PSs X e t' := ⟨fun pins s σ H D I hw => h.run pins s σ H D I (q D σ H hw)⟩

/-- values by values: a built-in operation -/
abbrev Fn1 := D → Sto → Option (D × Sto)
abbrev Fn2 := D → D → Sto → Option (D × Sto)
abbrev FnL := List D → Sto → Option (D × Sto)
def lft (o : Sto → Option (D × Sto)) : M D := fun st => match o st with
  | some (d, st') => .ok d st'
  | none => .bad
/-- the operation's end -/
def Fin (κ : Kx) (w : Wd) (o : Option (D × Sto)) (Q : VK) : Prop := ∃ d st', o = some (d, st') ∧ ∀ w' H' v, w.Le w' → HoldK κ w' st' H' → RelD κ.K w' d v → Q v H'
theorem Fin.of {κ : Kx} {Wx : WX} {σ : L2.St} {w : Wd} {o : Sto → Option (D × Sto)} {st : Sto} {Q : VK} (h : PostG κ Wx σ w (lft o st) (CV κ Q)) : Fin κ w (o st) Q := by
  unfold lft at h
  cases q : o st with
  | none => rw [q] at h; exact h.elim
  | some z =>
    obtain ⟨d, st'⟩ := z
    rw [q] at h
    exact ⟨d, st', rfl, fun w' H' v le hh r => h w' H' le hh v r⟩
def rd1 (κ : Kx) (g : Fn1) : V → Hp → VK → Prop := fun v H Q => ∃ w x st, RelD κ.K w x v ∧ HoldK κ w st H ∧ Fin κ w (g x st) Q
def rd2 (κ : Kx) (g : Fn2) : R2 := fun v u H Q => ∃ w x y st, RelD κ.K w x v ∧ RelD κ.K w y u ∧ HoldK κ w st H ∧ Fin κ w (g x y st) Q
def rdL (κ : Kx) (g : FnL) : List V → Hp → VK → Prop := fun vs H Q => ∃ w xs st, RelL κ.K w xs vs ∧ HoldK κ w st H ∧ Fin κ w (g xs st) Q

section
variable {X : Cx} {κ : Kx} {Wx : WX} {σ : L2.St} {H : Hp} {ma mb : Env' → M D}
theorem rd_one {β : Type} {f : D → M β} {C : β → Sto → Wd → Hp → Prop} {w : Wd} {env : Env'} {st : Sto} (hE : RelE κ w env σ) (hH : HoldK κ w st H) (h : PostG κ Wx σ w (bnd (ma env) f st) C) :
    rdE κ ma Wx σ H fun v H1 => ∃ w1 x st1, w.Le w1 ∧ RelD κ.K w1 x v ∧ RelE κ w1 env σ ∧ HoldK κ w1 st1 H1 ∧ PostG κ Wx σ w1 (f x st1) C :=
  ⟨w, env, st, hE, hH, (PostG.bnd h).imp fun x st1 w1 H1 le hH1 hp v rv => ⟨w1, x, st1, le, rv, hE.mono le, hH1, hp⟩⟩
theorem rd_two {β : Type} {f : D → D → M β} {C : β → Sto → Wd → Hp → Prop} {w : Wd} {env : Env'} {st : Sto} (hE : RelE κ w env σ) (hH : HoldK κ w st H) (h : PostG κ Wx σ w (bnd (ma env) (fun x => bnd (mb env) (f x)) st) C) :
    rdE κ ma Wx σ H fun v H1 => rdE κ mb Wx σ H1 fun u H2 => ∃ w2 x y st2, w.Le w2 ∧ RelD κ.K w2 x v ∧ RelD κ.K w2 y u ∧ RelE κ w2 env σ ∧ HoldK κ w2 st2 H2 ∧ PostG κ Wx σ w2 (f x y st2) C := by
  obtain ⟨w0, env0, st0, a, b, c⟩ := rd_one hE hH h
  refine ⟨w0, env0, st0, a, b, c.imp fun d st' w' H' le hh q v rv => ?_⟩
  obtain ⟨w1, x, st1, le1, r1, hE1, hH1, hp⟩ := q v rv
  obtain ⟨w0', env0', st0', a', b', c'⟩ := rd_one hE1 hH1 hp
  refine ⟨w0', env0', st0', a', b', c'.imp fun d' st'' w'' H'' le' hh' q' u ru => ?_⟩
  obtain ⟨w2, y, st2, le2, r2, hE2, hH2, hp2⟩ := q' u ru
  exact ⟨w2, x, y, st2, le1.trans le2, r1.mono le2, r2, hE2, hH2, hp2⟩

/-! ## names, constants, operators -/
def mVar (i : Nat) : Env' → M D := fun env => opt (env[i]?.bind id)
theorem r_var {i : Nat} {e : Expr} (h : PE X e (tVar i)) : PE X e (rdE κ (mVar i) Wx) := h.wk fun σ H Q ⟨w, env, st, hE, hH, hp⟩ => by
  unfold mVar opt at hp
  cases q : env[i]?.bind id with
  | none => rw [q] at hp; exact hp.elim
  | some d =>
    rw [q] at hp
    have e : env[i]? = some (some d) := by
      cases z : env[i]? with
      | none => rw [z] at q; cases q
      | some o => rw [z] at q; have q' : o = some d := q; rw [q']
    obtain ⟨v, h1, h2⟩ := hE.2 i d e
    exact ⟨v, h1, hp w H (Wd.Le.refl w) hH v h2⟩
def mC (x : PyData) : Env' → M D := fun _ => ret (.p x)
theorem r_con {v : V} {e : Expr} {x : PyData} (h : PE X e (tC v)) (r : ∀ W, Dq κ.K W v x) : PE X e (rdE κ (mC x) Wx) := h.wk fun σ H Q ⟨w, env, st, hE, hH, hp⟩ => hp w H (Wd.Le.refl w) hH v (r w.W)
def m2 (ma mb : Env' → M D) (g : Fn2) : Env' → M D := fun env => bnd (ma env) fun x => bnd (mb env) fun y => lft (g x y)
def m1 (ma : Env' → M D) (g : Fn1) : Env' → M D := fun env => bnd (ma env) fun x => lft (g x)
theorem rd_m2 {g : Fn2} {Q : VK} (h : rdE κ (m2 ma mb g) Wx σ H Q) : rdE κ ma Wx σ H fun v H1 => rdE κ mb Wx σ H1 fun u H2 => rd2 κ g v u H2 Q := by
  obtain ⟨w, env, st, hE, hH, hp⟩ := h
  obtain ⟨w0, env0, st0, a, b, c⟩ := rd_two (f := fun x y => lft (g x y)) hE hH hp
  refine ⟨w0, env0, st0, a, b, c.imp fun d st' w' H' le hh q v rv => ?_⟩
  obtain ⟨w1, env1, st1, a1, b1, c1⟩ := q v rv
  refine ⟨w1, env1, st1, a1, b1, c1.imp fun d st' w' H' le hh q u ru => ?_⟩
  obtain ⟨w2, x, y, st2, _, r1, r2, _, hH2, hp2⟩ := q u ru
  exact ⟨w2, x, y, st2, r1, r2, hH2, Fin.of hp2⟩
theorem rd_m1 {g : Fn1} {Q : VK} (h : rdE κ (m1 ma g) Wx σ H Q) : rdE κ ma Wx σ H fun v H1 => rd1 κ g v H1 Q := by
  obtain ⟨w, env, st, hE, hH, hp⟩ := h
  obtain ⟨w0, env0, st0, a, b, c⟩ := rd_one (f := fun x => lft (g x)) hE hH hp
  refine ⟨w0, env0, st0, a, b, c.imp fun d st' w' H' le hh q v rv => ?_⟩
  obtain ⟨w1, x, st1, _, r1, _, hH1, hp1⟩ := q v rv
  exact ⟨w1, x, st1, r1, hH1, Fin.of hp1⟩
variable {a b e : Expr} {pos : Pos}
theorem r_bin {op : Operator} {g : Fn2} (ho : OpR X (binaryOp op) (rd2 κ g)) (ha : PE X a (rdE κ ma Wx)) (hb : PE X b (rdE κ mb Wx)) : PE X (.BinOp a op b pos) (rdE κ (m2 ma mb g) Wx) :=
  (pe_op ho ha hb).wk fun σ H Q h => rd_m2 h
theorem r_un {op : UnaryOp} {g : Fn1} (ho : UnR X (unaryOp op) (rd1 κ g)) (ha : PE X a (rdE κ ma Wx)) : PE X (.UnaryOp op a pos) (rdE κ (m1 ma g) Wx) :=
  (pe_un ho ha).wk fun σ H Q h => rd_m1 h
theorem r_cmp {op : CmpOp} {g : Fn2} (ho : OpR X (compareOp op) (rd2 κ g)) (ha : PE X a (rdE κ ma Wx)) (hb : PE X b (rdE κ mb Wx)) (hm : behindInMarks op b = false) : PE X (.Compare a [op] [b] pos) (rdE κ (m2 ma mb g) Wx) :=
  (pe_cmpR ho ha hb hm).wk fun σ H Q h => rd_m2 h
theorem r_ix {g : Fn2} (ho : IxR X (rd2 κ g)) (ha : PE X a (rdE κ ma Wx)) (hb : PE X b (rdE κ mb Wx)) (hs : PlainIx b) : PE X (.Subscript a b pos) (rdE κ (m2 ma mb g) Wx) :=
  (pe_ix ho ha hb hs).wk fun σ H Q h => rd_m2 h
end
/-- rules for two values, joined -/
theorem _root_.L2.OpR.wk {X : Cx} {f : Value → Value → Sem Value} {r r' : R2} (h : OpR X f r) (q : ∀ v u H Q, r' v u H Q → r v u H Q) : OpR X f r' := fun pins s σ H x y v u Q I rx ry hw => h pins s σ H x y v u Q I rx ry (q _ _ _ _ hw)

/-! ## tests -/
section
variable {X : Cx} {κ : Kx} {Wx : WX} {σ : L2.St} {H : Hp} {ma mb : Env' → M D} {ta tb : Env' → M Bool} {a b c : Expr} {pos : Pos} {rest : List Expr}
/-- the truth of data -/
def truth (x : PyData) : Option Bool := match x with
  | .none => some false
  | .bool b => some b
  | .int i => some (i != 0)
  | .str s => if s.length ≤ 1000000 then some ((s.length : Int) != 0) else none
  | .list xs => some (!xs.isEmpty)
  | .tuple xs => some (!xs.isEmpty)
  | .dict _ => none
def tV (m : Env' → M D) : Env' → M Bool := fun env => bnd (m env) fun d st => match (vw d st).bind truth with
  | some b => .ok b st
  | none => .bad
theorem rd_tb {β : Type} {f : Bool → M β} {C : β → Sto → Wd → Hp → Prop} {w : Wd} {env : Env'} {st : Sto} (hE : RelE κ w env σ) (hH : HoldK κ w st H) (h : PostG κ Wx σ w (bnd (ta env) f st) C) :
    rdT κ ta Wx σ H fun k H1 => ∃ w1 st1, w.Le w1 ∧ RelE κ w1 env σ ∧ HoldK κ w1 st1 H1 ∧ PostG κ Wx σ w1 (f k st1) C :=
  ⟨w, env, st, hE, hH, (PostG.bnd h).imp fun x st1 w1 H1 le hH1 hp => ⟨w1, st1, le, hE.mono le, hH1, hp⟩⟩
theorem isEmpty_len {α β : Type} {xs : List α} {ys : List β} (h : xs.length = ys.length) : xs.isEmpty = ys.isEmpty := by
  cases xs <;> cases ys <;> simp_all
theorem lim_line {n : Nat} (h : n ≤ 1000000) : n ≤ sizeLine := by rw [sizeLine_eq]; omega
theorem truth_ok {v : V} {x : PyData} {k : Bool} (r : Dq κ.K H v x) (e : truth x = some k) : TruV κ.K v H k := by
  cases r with
  | non => cases e; show _ = false; rfl
  | bl b => cases e; show _ = _; rfl
  | int i => cases e; show _ = _; rfl
  | str s =>
    unfold truth at e
    simp only at e
    split at e
    · rename_i h
      cases e
      exact ⟨lim_line h, rfl⟩
    · cases e
  | lst s hl => cases e; exact .inl ⟨_, s, by rw [isEmpty_len (Fw.DqAll.length hl)]⟩
  | tup s hl => cases e; exact .inr (.inl ⟨_, sqT_up s, by rw [isEmpty_len (Fw.DqAll.length hl)]⟩)
  | mk s => cases e
theorem r_tv (ha : PE X a (rdE (kxOf X ex) ma Wx)) (he : ∀ whole, isTrue a X.env whole = (do let v ← whole; standAt a.pos; holding [v] (truthy v))) : PT X a (rdT (kxOf X ex) (tV ma) Wx) := by
  refine (pt_truth ha he).wk fun σ H Q h => ?_
  obtain ⟨w, env, st, hE, hH, hp⟩ := h
  obtain ⟨w0, env0, st0, a0, b0, c0⟩ := rd_one hE hH hp
  refine ⟨w0, env0, st0, a0, b0, c0.imp fun d st' w' H' le hh q v rv => ?_⟩
  obtain ⟨w1, x, st1, _, r1, _, hH1, hp1⟩ := q v rv
  cases q2 : (vw x st1).bind truth with
  | none => rw [q2] at hp1; exact hp1.elim
  | some k =>
    rw [q2] at hp1
    cases q3 : vw x st1 with
    | none => rw [q3] at q2; cases q2
    | some y =>
      rw [q3] at q2
      exact ⟨k, truth_ok (κ := kxOf X ex) (vw_ok hH1 r1 q3) q2, hp1 w1 _ (Wd.Le.refl _) hH1⟩
def tNt (t : Env' → M Bool) : Env' → M Bool := fun env => bnd (t env) fun b => ret (!b)
theorem r_not (ha : PT X a (rdT κ ta Wx)) : PT X (.UnaryOp .Not a pos) (rdT κ (tNt ta) Wx) := (pt_not ha).wk fun σ H Q h => by
  obtain ⟨w, env, st, hE, hH, hp⟩ := h
  obtain ⟨w0, env0, st0, a0, b0, c0⟩ := rd_tb hE hH hp
  refine ⟨w0, env0, st0, a0, b0, c0.imp fun k st' w' H' le hh q => ?_⟩
  obtain ⟨w1, st1, _, _, hH1, hp1⟩ := q
  exact PostG.ret (C := CB Q) hH1 hp1
def tAn (t u : Env' → M Bool) : Env' → M Bool := fun env => bnd (t env) fun b => if b = true then u env else ret false
def tOrr (t u : Env' → M Bool) : Env' → M Bool := fun env => bnd (t env) fun b => if b = true then ret true else u env
theorem r_and (ha : PT X a (rdT κ ta Wx)) (hb : PW X (.BoolOp .And (b :: rest) pos) (rdT κ tb Wx)) : PW X (.BoolOp .And (a :: b :: rest) pos) (rdT κ (tAn ta tb) Wx) := (pw_and ha hb).wk fun σ H Q h => by
  obtain ⟨w, env, st, hE, hH, hp⟩ := h
  obtain ⟨w0, env0, st0, a0, b0, c0⟩ := rd_tb hE hH hp
  refine ⟨w0, env0, st0, a0, b0, c0.imp fun k st' w' H' le hh q => ?_⟩
  obtain ⟨w1, st1, _, hE1, hH1, hp1⟩ := q
  cases k with
  | true => rw [if_pos rfl] at hp1; exact iteT ⟨w1, env, st1, hE1, hH1, hp1⟩
  | false => rw [if_neg Bool.false_ne_true] at hp1; exact iteF (PostG.ret (C := CB Q) hH1 hp1)
theorem r_or (ha : PT X a (rdT κ ta Wx)) (hb : PW X (.BoolOp .Or (b :: rest) pos) (rdT κ tb Wx)) : PW X (.BoolOp .Or (a :: b :: rest) pos) (rdT κ (tOrr ta tb) Wx) := (pw_or ha hb).wk fun σ H Q h => by
  obtain ⟨w, env, st, hE, hH, hp⟩ := h
  obtain ⟨w0, env0, st0, a0, b0, c0⟩ := rd_tb hE hH hp
  refine ⟨w0, env0, st0, a0, b0, c0.imp fun k st' w' H' le hh q => ?_⟩
  obtain ⟨w1, st1, _, hE1, hH1, hp1⟩ := q
  cases k with
  | false => rw [if_neg Bool.false_ne_true] at hp1; exact iteF ⟨w1, env, st1, hE1, hH1, hp1⟩
  | true => rw [if_pos rfl] at hp1; exact iteT (PostG.ret (C := CB Q) hH1 hp1)
/-- a comparison as a test -/
def asB (d : D) : Option Bool := match d with
  | .p (.bool b) => some b
  | _ => none
def tB (m : Env' → M D) : Env' → M Bool := fun env => bnd (m env) fun d => opt (asB d)
theorem rd_tbv {Q : Bool → Hp → Prop} {w : Wd} {env : Env'} {st : Sto} (hE : RelE κ w env σ) (hH : HoldK κ w st H) (h : PostG κ Wx σ w (bnd (ma env) (fun d => opt (asB d)) st) (CB Q)) :
    rdE κ ma Wx σ H fun v H1 => ∃ k, v = .bl k ∧ Q k H1 := by
  obtain ⟨w0, env0, st0, a0, b0, c0⟩ := rd_one hE hH h
  refine ⟨w0, env0, st0, a0, b0, c0.imp fun d st' w' H' le hh q v rv => ?_⟩
  obtain ⟨w1, x, st1, _, r1, _, hH1, hp1⟩ := q v rv
  cases x with
  | loc n => exact hp1.elim
  | p y =>
    cases y with
    | bool k =>
      have r1' : Dq κ.K w1.W v (.bool k) := r1
      cases r1'
      exact ⟨k, rfl, hp1 w1 _ (Wd.Le.refl _) hH1⟩
    | _ => exact hp1.elim
theorem r_tcmp {op : CmpOp} {g : Fn2} (ho : OpR X (compareOp op) (rd2 κ g)) (ha : PE X a (rdE κ ma Wx)) (hb : PE X b (rdE κ mb Wx)) (hm : behindInMarks op b = false) : PT X (.Compare a [op] [b] pos) (rdT κ (tB (m2 ma mb g)) Wx) := by
  have h0 : PT X (.Compare a [op] [b] pos) (tTest (rdE κ (m2 ma mb g) Wx)) := by
    refine (pt_cmpR ho ha hb hm).wk fun σ H Q h => ?_
    exact rd_m2 h
  refine h0.wk fun σ H Q h => ?_
  obtain ⟨w, env, st, hE, hH, hp⟩ := h
  exact rd_tbv hE hH hp
/-- values of and, or, not: bools -/
def eB (t : Env' → M Bool) : Env' → M D := fun env => bnd (t env) fun b => ret (.p (.bool b))
def mAnd (ma mb : Env' → M D) : Env' → M D := fun env => bnd (ma env) fun d => match asB d with
  | some true => mb env
  | some false => ret (.p (.bool false))
  | none => bad
def mOr (ma mb : Env' → M D) : Env' → M D := fun env => bnd (ma env) fun d => match asB d with
  | some true => ret (.p (.bool true))
  | some false => mb env
  | none => bad
def mNot (ma : Env' → M D) : Env' → M D := fun env => bnd (ma env) fun d => match asB d with
  | some k => ret (.p (.bool (!k)))
  | none => bad
theorem asB_shape {x : D} {w : Wd} {v : V} {k : Bool} (r : RelD κ.K w x v) (e : asB x = some k) : v = .bl k := by
  cases x with
  | loc n => cases e
  | p y =>
    cases y with
    | bool j =>
      cases e
      have r' : Dq κ.K w.W v (.bool k) := r
      cases r'
      rfl
    | _ => cases e
theorem r_eand (ha : PE X a (rdE κ ma Wx)) (hb : PE X (.BoolOp .And (b :: rest) pos) (rdE κ mb Wx)) : PE X (.BoolOp .And (a :: b :: rest) pos) (rdE κ (mAnd ma mb) Wx) := (pe_and ha hb).wk fun σ H Q h => by
  obtain ⟨w, env, st, hE, hH, hp⟩ := h
  obtain ⟨w0, env0, st0, a0, b0, c0⟩ := rd_one hE hH hp
  refine ⟨w0, env0, st0, a0, b0, c0.imp fun d st' w' H' le hh q v rv => ?_⟩
  obtain ⟨w1, x, st1, _, r1, hE1, hH1, hp1⟩ := q v rv
  cases q2 : asB x with
  | none => rw [q2] at hp1; exact hp1.elim
  | some k =>
    rw [q2] at hp1
    refine ⟨k, asB_shape r1 q2, ?_⟩
    cases k with
    | true => exact iteT ⟨w1, env, st1, hE1, hH1, hp1⟩
    | false => exact iteF (PostG.ret (C := CV κ Q) hH1 hp1 _ (.bl false))
theorem r_eor (ha : PE X a (rdE κ ma Wx)) (hb : PE X (.BoolOp .Or (b :: rest) pos) (rdE κ mb Wx)) : PE X (.BoolOp .Or (a :: b :: rest) pos) (rdE κ (mOr ma mb) Wx) := (pe_or ha hb).wk fun σ H Q h => by
  obtain ⟨w, env, st, hE, hH, hp⟩ := h
  obtain ⟨w0, env0, st0, a0, b0, c0⟩ := rd_one hE hH hp
  refine ⟨w0, env0, st0, a0, b0, c0.imp fun d st' w' H' le hh q v rv => ?_⟩
  obtain ⟨w1, x, st1, _, r1, hE1, hH1, hp1⟩ := q v rv
  cases q2 : asB x with
  | none => rw [q2] at hp1; exact hp1.elim
  | some k =>
    rw [q2] at hp1
    refine ⟨k, asB_shape r1 q2, ?_⟩
    cases k with
    | false => exact iteF ⟨w1, env, st1, hE1, hH1, hp1⟩
    | true => exact iteT (PostG.ret (C := CV κ Q) hH1 hp1 _ (.bl true))
theorem r_enot (ha : PE X a (rdE κ ma Wx)) : PE X (.UnaryOp .Not a pos) (rdE κ (mNot ma) Wx) := (pe_not ha).wk fun σ H Q h => by
  obtain ⟨w, env, st, hE, hH, hp⟩ := h
  obtain ⟨w0, env0, st0, a0, b0, c0⟩ := rd_one hE hH hp
  refine ⟨w0, env0, st0, a0, b0, c0.imp fun d st' w' H' le hh q v rv => ?_⟩
  obtain ⟨w1, x, st1, _, r1, hE1, hH1, hp1⟩ := q v rv
  cases q2 : asB x with
  | none => rw [q2] at hp1; exact hp1.elim
  | some k =>
    rw [q2] at hp1
    exact ⟨k, asB_shape r1 q2, PostG.ret (C := CV κ Q) hH1 hp1 _ (.bl (!k))⟩
/-- a if t else b -/
def mIf (t : Env' → M Bool) (ma mb : Env' → M D) : Env' → M D := fun env => bnd (t env) fun k => if k = true then ma env else mb env
theorem r_if (hc : PT X c (rdT κ ta Wx)) (ha : PE X a (rdE κ ma Wx)) (hb : PE X b (rdE κ mb Wx)) : PE X (.IfExp c a b pos) (rdE κ (mIf ta ma mb) Wx) := (pe_ifExp hc ha hb).wk fun σ H Q h => by
  obtain ⟨w, env, st, hE, hH, hp⟩ := h
  obtain ⟨w0, env0, st0, a0, b0, c0⟩ := rd_tb hE hH hp
  refine ⟨w0, env0, st0, a0, b0, c0.imp fun k st' w' H' le hh q => ?_⟩
  obtain ⟨w1, st1, _, hE1, hH1, hp1⟩ := q
  cases k with
  | true => rw [if_pos rfl] at hp1; exact iteT ⟨w1, env, st1, hE1, hH1, hp1⟩
  | false => rw [if_neg Bool.false_ne_true] at hp1; exact iteF ⟨w1, env, st1, hE1, hH1, hp1⟩
end

/-! ## argument lists, displays -/
section
variable {X : Cx} {κ : Kx} {Wx : WX} {σ : L2.St} {H : Hp} {ma : Env' → M D} {ms : Env' → M (List D)} {e : Expr} {es : List Expr} {pos : Pos}
def aNil : Env' → M (List D) := fun _ => ret []
def aCons (m : Env' → M D) (ms : Env' → M (List D)) : Env' → M (List D) := fun env => bnd (m env) fun x => bnd (ms env) fun xs => ret (x :: xs)
theorem r_nil : PA X [] (rdA κ aNil Wx) := pa_nil.wk fun σ H Q h => by
  obtain ⟨w, env, st, hE, hH, hp⟩ := h
  exact PostG.ret (C := CL κ Q) hH hp [] .nil
theorem r_cons (ha : PE X e (rdE κ ma Wx)) (hr : PA X es (rdA κ ms Wx)) (hs : starEach (e :: es) X.env = (false, eval e X.env) :: starEach es X.env) : PA X (e :: es) (rdA κ (aCons ma ms) Wx) := (pa_cons ha hr hs).wk fun σ H Q h => by
  obtain ⟨w, env, st, hE, hH, hp⟩ := h
  obtain ⟨w0, env0, st0, a0, b0, c0⟩ := rd_one hE hH hp
  refine ⟨w0, env0, st0, a0, b0, c0.imp fun d st' w' H' le hh q v rv => ?_⟩
  obtain ⟨w1, x, st1, _, r1, hE1, hH1, hp1⟩ := q v rv
  exact ⟨w1, env, st1, hE1, hH1, (PostG.bnd hp1).imp fun ds st2 w2 H2 le2 hH2 hp2 vs rl => PostG.ret (C := CL κ Q) hH2 hp2 _ (.cons (r1.mono le2) rl)⟩
/-- an operation on an argument list -/
def mL (ms : Env' → M (List D)) (g : FnL) : Env' → M D := fun env => bnd (ms env) fun xs => lft (g xs)
theorem rd_mL {g : FnL} {Q : VK} (h : rdE κ (mL ms g) Wx σ H Q) : rdA κ ms Wx σ H fun vs H1 => rdL κ g vs H1 Q := by
  obtain ⟨w, env, st, hE, hH, hp⟩ := h
  exact ⟨w, env, st, hE, hH, (PostG.bnd hp).imp fun ds st1 w1 H1 le hH1 hp1 vs rl => ⟨w1, ds, st1, rl, hH1, Fin.of hp1⟩⟩
def gTupD : FnL := fun ds st => if ds.length ≤ 1000000 then (pures ds).map fun xs => (.p (.tuple xs), st) else none
def gLstD : FnL := fun ds st => if ds.length ≤ 1000000 then (pures ds).map fun xs => (.p (.list xs), st) else none
/-- a list display of a mutable list -/
def gMutD : FnL := fun ds st => if ds.length ≤ 1000000 ∧ (ds.all fun d => match d with
  | .p _ => true
  | .loc j => decide (j < st.length)) = true then some (.loc st.length, st ++ [.lst ds]) else none
theorem r_tup {x1 : Nat} (h : PA X es (rdA κ ms Wx)) : PE X (.Tuple es x1 pos) (rdE κ (mL ms gTupD) Wx) := (pe_tup h).wk fun σ H Q h => by
  obtain ⟨w, env, st, hE, hH, hp⟩ := rd_mL h
  refine ⟨w, env, st, hE, hH, hp.imp fun ds st1 w1 H1 le hH1 q vs rl => ?_⟩
  obtain ⟨w2, xs, st2, rl2, hH2, d, st', e, fin⟩ := q vs rl
  unfold gTupD at e
  split at e
  · rename_i hl
    cases q2 : pures xs with
    | none => rw [q2] at e; cases e
    | some ys =>
      rw [q2] at e
      cases e
      have ex := pures_eq q2
      subst ex
      rw [RelL.length rl2] at hl
      refine ⟨lim_line hl, fun p np => ?_⟩
      have n2 : w2.W p = none := hH2.free np
      have hI := Hold.imm_new (o := .tup vs) hH2 np trivial
      exact fin _ _ _ (Wd.le_imm n2) hI (.tup (SqT.of upd_same) (Dq.monoA (fun a o e => (Wd.le_imm (o := .tup vs) n2).W a o e) _ _ rl2.pure))
  · cases e
theorem r_lst (h : PA X es (rdA κ ms Wx)) : PE X (.List es pos) (rdE κ (mL ms gLstD) Wx) := (pe_lst h).wk fun σ H Q h => by
  obtain ⟨w, env, st, hE, hH, hp⟩ := rd_mL h
  refine ⟨w, env, st, hE, hH, hp.imp fun ds st1 w1 H1 le hH1 q vs rl => ?_⟩
  obtain ⟨w2, xs, st2, rl2, hH2, d, st', e, fin⟩ := q vs rl
  unfold gLstD at e
  split at e
  · rename_i hl
    cases q2 : pures xs with
    | none => rw [q2] at e; cases e
    | some ys =>
      rw [q2] at e
      cases e
      have ex := pures_eq q2
      subst ex
      rw [RelL.length rl2] at hl
      refine ⟨lim_line hl, fun p np => ?_⟩
      have n2 : w2.W p = none := hH2.free np
      have hI := Hold.imm_new (o := .lst vs) hH2 np trivial
      exact fin _ _ _ (Wd.le_imm n2) hI (.lst (SqL.of upd_same) (Dq.monoA (fun a o e => (Wd.le_imm (o := .lst vs) n2).W a o e) _ _ rl2.pure))
  · cases e
theorem wf_all {ds : List D} {n : Nat} (h : (ds.all fun d => match d with
  | .p _ => true
  | .loc j => decide (j < n)) = true) : Wf1 n (.lst ds) := fun j m => of_decide_eq_true (List.all_eq_true.mp h _ m)
theorem r_mut (h : PA X es (rdA κ ms Wx)) : PE X (.List es pos) (rdE κ (mL ms gMutD) Wx) := (pe_lst h).wk fun σ H Q h => by
  obtain ⟨w, env, st, hE, hH, hp⟩ := rd_mL h
  refine ⟨w, env, st, hE, hH, hp.imp fun ds st1 w1 H1 le hH1 q vs rl => ?_⟩
  obtain ⟨w2, xs, st2, rl2, hH2, d, st', e, fin⟩ := q vs rl
  unfold gMutD at e
  split at e
  · rename_i hl
    cases e
    refine ⟨lim_line (by rw [← RelL.length rl2]; exact hl.1), fun p np => ?_⟩
    have hI := Hold.mut_new (o := .lst vs) (b := .lst xs) hH2 np ⟨vs, rfl, rl2⟩ (wf_all hl.2)
    exact fin _ _ _ Wd.le_mut hI ⟨p, rfl, by
      show (w2.L ++ [p])[st2.length]? = some p
      rw [← hH2.len, List.getElem?_append_right (Nat.le_refl _)]
      simp⟩
  · cases e
end
end Fw
set_option Elab.async false
set_option linter.all false
set_option maxRecDepth 100000
set_option maxHeartbeats 4000000
namespace Fw
open PySem PySem.Spec PyProof.Rows L2
open PySem.AutoSeq1 (wpAny_loadPart')
open PySem.MeetsSeq PySem.MeetsSeq2 PySem.MeetsSeq3

/-! ## data one level deep -/
def DqW (K : PySem.W.Frag) (w : Wd) (H : Hp) (v : V) : PyData → Prop
  | .list xs => ∃ a vs, v = .ref a ∧ SqL K H a vs ∧ DqAll K w.W vs xs
  | x => Dq K w.W v x
section
variable {K : PySem.W.Frag} {P : Program} {ww : World} {w : Wd} {st : Sto} {H : Hp}
theorem mapM0 : ∀ {ds : List D} {xs : List PyData} {st : Sto}, (ds.mapM fun d => view 0 d st) = some xs → ds = xs.map D.p
  | [], xs, st, h => by
    have : xs = [] := by simpa using h
    subst this; rfl
  | d :: r, xs, st, h => by
    rw [List.mapM_cons] at h
    simp only [Option.bind_eq_bind, Option.bind_eq_some_iff, Option.pure_def] at h
    obtain ⟨y, hy, ys, hys, e4⟩ := h
    cases e4
    cases d with
    | p x => cases hy; rw [mapM0 hys]; rfl
    | loc n => cases hy
theorem view1_ok (h : Hold K P ww w st H) {d : D} {v : V} {x : PyData} (r : RelD K w d v) (e : view 1 d st = some x) : DqW K w H v x := by
  cases d with
  | p y =>
    cases e
    cases x with
    | list xs =>
      have r' : Dq K w.W v (.list xs) := r
      cases r' with
      | lst s a => exact ⟨_, _, rfl, sqL_mono (fun _ _ e => h.wd e) s, a⟩
    | _ => exact r
  | loc n =>
    obtain ⟨a, rfl, ha⟩ := r
    have e' : (match st[n]? with
      | some (.lst ds) => (ds.mapM fun d => view 0 d st).map PyData.list
      | _ => none) = some x := e
    cases q : st[n]? with
    | none => rw [q] at e'; cases e'
    | some b =>
      rw [q] at e'
      cases b with
      | lst ds =>
        obtain ⟨o, ho, vs, rfl, rl⟩ := h.obs n a _ ha q
        have e2 : (ds.mapM fun d => view 0 d st).map PyData.list = some x := e'
        cases q2 : (ds.mapM fun d => view 0 d st) with
        | none => rw [q2] at e2; cases e2
        | some xs =>
          rw [q2] at e2
          have e3 : PyData.list xs = x := Option.some.inj e2
          subst e3
          have ed := mapM0 q2
          subst ed
          exact ⟨a, vs, rfl, SqL.of ho, rl.pure⟩
      | dT _ => cases e'
      | dK _ => cases e'
      | set _ => cases e'
theorem view1_p {x : PyData} {st : Sto} : view 1 (.p x) st = some x := rfl
theorem DqW.dp (h : Hold K P ww w st H) {v : V} : ∀ {x : PyData}, DqW K w H v x → Dq K H v x
  | .list xs, ⟨a, vs, e, s, d⟩ => by subst e; exact .lst s (h.dpA d)
  | .none, r => h.dp r
  | .bool _, r => h.dp r
  | .int _, r => h.dp r
  | .str _, r => h.dp r
  | .tuple _, r => h.dp r
  | .dict _, r => h.dp r
mutual
theorem Dp.plain : ∀ {x : PyData} {v : V}, Dp K H v x → x.plain = true
  | .none, _, _ => rfl
  | .bool _, _, _ => rfl
  | .int _, _, _ => rfl
  | .str _, _, _ => rfl
  | .list xs, _, r => by
    cases r with
    | lst s a => exact DpAll.plain a
  | .tuple xs, _, r => by
    cases r with
    | tup s a => exact DpAll.plain a
  | .dict _, _, r => by cases r
theorem DpAll.plain : ∀ {xs : List PyData} {vs : List V}, DpAll K H vs xs → PyData.plainAll xs = true
  | [], _, _ => rfl
  | x :: xs, _, r => by
    cases r with
    | cons a b => simp only [PyData.plainAll, Dp.plain a, DpAll.plain b, Bool.and_self]
end
theorem Dq.int_inv {v : V} {i : Int} (r : Dq K H v (.int i)) : v = .int i := by cases r; rfl
theorem Dq.str_inv {v : V} {i : Str} (r : Dq K H v (.str i)) : v = .str i := by cases r; rfl
theorem Dq.bl_inv {v : V} {i : Bool} (r : Dq K H v (.bool i)) : v = .bl i := by cases r; rfl
theorem Dq.tup_inv {v : V} {xs : List PyData} (r : Dq K H v (.tuple xs)) : ∃ a vs, v = .ref a ∧ SqT K H a vs ∧ DqAll K H vs xs := by
  cases r with
  | tup s a => exact ⟨_, _, rfl, sqT_up s, a⟩
theorem Dq.tup_invS {v : V} {xs : List PyData} (r : Dq K H v (.tuple xs)) : ∃ a vs, v = .ref a ∧ SqT (strip K) H a vs ∧ DqAll K H vs xs := by
  cases r with
  | tup s a => exact ⟨_, _, rfl, s, a⟩
theorem Dq.lst_inv {v : V} {xs : List PyData} (r : Dq K H v (.list xs)) : ∃ a vs, v = .ref a ∧ SqL K H a vs ∧ DqAll K H vs xs := by
  cases r with
  | lst s a => exact ⟨_, _, rfl, s, a⟩
theorem Dq.ints : ∀ {ns : List Int} {vs : List V}, DqAll K H vs (ns.map PyData.int) → vs = ns.map V.int
  | [], _, r => by cases r; rfl
  | n :: ns, _, r => by
    cases r with
    | cons a b => rw [Dq.int_inv a, Dq.ints b]; rfl
theorem Dq.bools : ∀ {ns : List Bool} {vs : List V}, DqAll K H vs (ns.map PyData.bool) → vs = ns.map V.bl
  | [], _, r => by cases r; rfl
  | n :: ns, _, r => by
    cases r with
    | cons a b => rw [Dq.bl_inv a, Dq.bools b]; rfl
end

/-! ## the ends of operations that make pure data -/
section
variable {κ : Kx} {w : Wd} {st : Sto} {H : Hp} {Q : VK}
/-- the answer is data that stands already -/
theorem fin_here {x : PyData} {v : V} (hH : HoldK κ w st H) (r : Dq κ.K w.W v x) (fin : ∀ w' H' v, w.Le w' → HoldK κ w' st H' → RelD κ.K w' (.p x) v → Q v H') : Q v H := fin w H v (Wd.Le.refl w) hH r
theorem fin_tup {xs : List PyData} {vs : List V} {p : Addr} (hH : HoldK κ w st H) (np : H p = none) (r : DqAll κ.K w.W vs xs) (fin : ∀ w' H' v, w.Le w' → HoldK κ w' st H' → RelD κ.K w' (.p (.tuple xs)) v → Q v H') : Q (.ref p) (upd H p (.tup vs)) := by
  have n2 : w.W p = none := hH.free np
  have le := Wd.le_imm (w := w) (p := p) (o := .tup vs) n2
  exact fin _ _ _ le (Hold.imm_new hH np trivial) (.tup (SqT.of upd_same) (Dq.monoA (fun a o e => le.W a o e) _ _ r))
theorem fin_lst {xs : List PyData} {vs : List V} {p : Addr} (hH : HoldK κ w st H) (np : H p = none) (r : DqAll κ.K w.W vs xs) (fin : ∀ w' H' v, w.Le w' → HoldK κ w' st H' → RelD κ.K w' (.p (.list xs)) v → Q v H') : Q (.ref p) (upd H p (.lst vs)) := by
  have n2 : w.W p = none := hH.free np
  have le := Wd.le_imm (w := w) (p := p) (o := .lst vs) n2
  exact fin _ _ _ le (Hold.imm_new hH np trivial) (.lst (SqL.of upd_same) (Dq.monoA (fun a o e => le.W a o e) _ _ r))
theorem fin_mut {ds : List D} {vs : List V} {p : Addr} (hH : HoldK κ w st H) (np : H p = none) (r : RelL κ.K w ds vs) (wf : Wf1 st.length (.lst ds)) (fin : ∀ w' H' v, w.Le w' → HoldK κ w' (st ++ [.lst ds]) H' → RelD κ.K w' (.loc st.length) v → Q v H') : Q (.ref p) (upd H p (.lst vs)) := by
  have hI := Hold.mut_new (o := .lst vs) (b := .lst ds) hH np ⟨vs, rfl, r⟩ wf
  exact fin _ _ _ Wd.le_mut hI ⟨p, rfl, by
    show (w.L ++ [p])[st.length]? = some p
    rw [← hH.len, List.getElem?_append_right (Nat.le_refl _)]
    simp⟩
end
/-- operations on pure data -/
def lift1 (k : Nat) (f : PyData → Option PyData) : Fn1 := fun d st => ((view k d st).bind f).map fun r => (.p r, st)
def lift2 (k : Nat) (f : PyData → PyData → Option PyData) : Fn2 := fun d e st => ((view k d st).bind fun x => (view k e st).bind fun y => f x y).map fun r => (.p r, st)
theorem lift1_ok {k : Nat} {f : PyData → Option PyData} {d e : D} {st st' : Sto} (h : lift1 k f d st = some (e, st')) : ∃ x r, view k d st = some x ∧ f x = some r ∧ e = .p r ∧ st' = st := by
  unfold lift1 at h
  cases q : view k d st with
  | none => rw [q] at h; cases h
  | some x =>
    rw [q] at h
    cases q2 : f x with
    | none => rw [Option.bind_some, q2] at h; cases h
    | some r =>
      rw [Option.bind_some, q2] at h
      cases h
      exact ⟨x, r, rfl, q2, rfl, rfl⟩
theorem lift2_ok {k : Nat} {f : PyData → PyData → Option PyData} {d d2 e : D} {st st' : Sto} (h : lift2 k f d d2 st = some (e, st')) : ∃ x y r, view k d st = some x ∧ view k d2 st = some y ∧ f x y = some r ∧ e = .p r ∧ st' = st := by
  unfold lift2 at h
  cases q : view k d st with
  | none => rw [q] at h; cases h
  | some x =>
    cases q1 : view k d2 st with
    | none => rw [q, q1] at h; cases h
    | some y =>
      rw [q, q1] at h
      cases q2 : f x y with
      | none => rw [Option.bind_some, Option.bind_some, q2] at h; cases h
      | some r =>
        rw [Option.bind_some, Option.bind_some, q2] at h
        cases h
        exact ⟨x, y, r, rfl, rfl, q2, rfl, rfl⟩

/-! ## arithmetic -/
def addP : PyData → PyData → Option PyData
  | .int i, .int j => some (.int (i + j))
  | .str a, .str b => if a.length + b.length ≤ 1000000 then some (.str (a ++ b)) else none
  | .tuple a, .tuple b => if a.length + b.length ≤ 1000000 then some (.tuple (a ++ b)) else none
  | .list a, .list b => if a.length + b.length ≤ 1000000 then some (.list (a ++ b)) else none
  | _, _ => none
def subP : PyData → PyData → Option PyData
  | .int i, .int j => some (.int (i - j))
  | _, _ => none
def mulOk (i j : Int) : Bool := decide (i.natAbs.log2 + j.natAbs.log2 < 1000000)
def mulP : PyData → PyData → Option PyData
  | .int i, .int j => if mulOk i j = true then some (.int (i * j)) else none
  | .tuple a, .int k => if 0 ≤ k ∧ k ≤ 1000 ∧ a.length ≤ 1000 ∧ a ≠ [] then some (.tuple (List.replicate k.toNat a).flatten) else none
  | _, _ => none
def fdivP : PyData → PyData → Option PyData
  | .int i, .int j => if j ≠ 0 ∧ j.natAbs.log2 < 9000 then some (.int (i.fdiv j)) else none
  | _, _ => none
def modP : PyData → PyData → Option PyData
  | .int i, .int j => if j ≠ 0 then some (.int (i.fmod j)) else none
  | _, _ => none
def negP : PyData → Option PyData
  | .int i => some (.int (-i))
  | _ => none
end Fw
namespace L2
open PySem PySem.Spec PyProof.Rows
open PySem.AutoSeq1 (wpAny_loadPart')
open PySem.MeetsSeq PySem.MeetsSeq2 PySem.MeetsSeq3
theorem fw_tuple_mul1 (l : Addr) (items : Array Value) (n : Nat) (dd : Option Addr) (sl : Array (Option Value)) (x : Int) (u : Tok) (c0 : (decide (x < -(2 ^ 63)) || decide (x ≥ 2 ^ 63)) = false) (c1 : (items.isEmpty || x == 1) = true) :
    Meets (Builtin.«tuple.__mul__» ⟨[.ref l, .int x u], []⟩) (fun _ R s => s.heap.get? l = some { cls := .type "tuple", dict := dd, data := .seq items n, slots := sl } ∧
      R (.ok (.ret (Value.ref l))) s) :=
  .of_wp fun prog w A R s h => by
    obtain ⟨hp, g, d, tk, os⟩ := s
    obtain ⟨hl, h⟩ := h
    have f1 := AutoSeq1.idx_int
    wp_walk using wpAny_loadPart' hl
    repeat (first
      | (refine wpAny_ite_false (decide_eq_false (by rw [c0]; exact Bool.false_ne_true)) ?_; wp_walk using wpAny_loadPart' hl)
      | (refine wpAny_ite_true (decide_eq_true c1) ?_; wp_walk using wpAny_loadPart' hl))
    exact ⟨_, rfl, h⟩
theorem fw_tuple_mul0 (l : Addr) (items : Array Value) (n : Nat) (dd : Option Addr) (sl : Array (Option Value)) (x : Int) (u : Tok) (c0 : (decide (x < -(2 ^ 63)) || decide (x ≥ 2 ^ 63)) = false) (c1 : (items.isEmpty || x == 1) = false) (c2 : (decide (x ≤ 0) || items.isEmpty) = true) :
    Meets (Builtin.«tuple.__mul__» ⟨[.ref l, .int x u], []⟩) (fun _ R s => s.heap.get? l = some { cls := .type "tuple", dict := dd, data := .seq items n, slots := sl } ∧
      R (.ok (.ret (Value.ref s.heap.objs.size))) { s with heap := s.heap.push { cls := Value.type "tuple", data := Data.seq #[] } }) :=
  .of_wp fun prog w A R s h => by
    obtain ⟨hp, g, d, tk, os⟩ := s
    obtain ⟨hl, h⟩ := h
    have f1 := AutoSeq1.idx_int
    wp_walk using wpAny_loadPart' hl
    repeat (first
      | (refine wpAny_ite_false (decide_eq_false (by rw [c0]; exact Bool.false_ne_true)) ?_; wp_walk using wpAny_loadPart' hl)
      | (refine wpAny_ite_false (decide_eq_false (by rw [c1]; exact Bool.false_ne_true)) ?_; wp_walk using wpAny_loadPart' hl)
      | (refine wpAny_ite_true (decide_eq_true c2) ?_; wp_walk using wpAny_loadPart' hl))
    exact ⟨_, rfl, h⟩
/-- a tuple times 1, times 0 -/
def rRepS (K : PySem.W.Frag) : R2 := fun x y H Q => ∃ l k xs, x = .ref l ∧ y = .int k ∧ SqT K H l xs ∧ xs ≠ [] ∧ ((k = 1 ∧ Q (.ref l) H) ∨ (k = 0 ∧ ∀ p, H p = none → Q (.ref p) (upd H p (.tup []))))
theorem op_repS {X : Cx} : OpR X (binaryOp .Mult) (rRepS X.K) := by
  intro pins s σ H x y v u Q I rx ry h
  obtain ⟨l, k, xs, rfl, rfl, hT, hne, h⟩ := h
  cases rx
  obtain ⟨t, rfl⟩ := ry
  obtain ⟨its, r, ⟨⟨cls, dd, data, sl⟩, ho, hc, n, hd⟩, hs⟩ := I.tuple hT
  simp only at hc hd
  subst hc hd
  have hn : its ≠ [] := fun e => hne (by
    have hle : its.length = xs.length := r.length.symm
    rw [e] at hle
    exact List.eq_nil_of_length_eq_zero hle.symm)
  have hi : its.toArray.isEmpty = false := by
    cases its with
    | nil => exact absurd rfl hn
    | cons a b => rfl
  rcases h with ⟨rfl, q⟩ | ⟨rfl, q⟩
  · refine wpAny_binaryOp_repeat_ref (T := "tuple") (U := "int") (by decide) ⟨_, ho, rfl⟩ (fun s' => typeIs_int s' 1 t) noFill_tuple_mul F.fills_int_mul F.slot_int_rmul repeat_tuple F.slot_int_index.lookup
      (call_meets F.slot_int_rmul (typeIs_int s 1 t) F.entry_int_rmul (F.args_int_rmul_2 _ _) (int_rmul_tuple 1 t l its.toArray n dd sl)
        ⟨ho, rfl, ⟨_, ho, rfl⟩, call_meets F.slot_tuple_mul ⟨_, ho, rfl⟩ F.entry_tuple_mul (F.args_tuple_mul_2 _ _) (fw_tuple_mul1 l its.toArray n dd sl 1 t (by decide) (by simp)) ⟨ho, ?_⟩⟩)
    exact ⟨.ref l, H, I, rfl, q⟩
  · refine wpAny_binaryOp_repeat_ref (T := "tuple") (U := "int") (by decide) ⟨_, ho, rfl⟩ (fun s' => typeIs_int s' 0 t) noFill_tuple_mul F.fills_int_mul F.slot_int_rmul repeat_tuple F.slot_int_index.lookup
      (call_meets F.slot_int_rmul (typeIs_int s 0 t) F.entry_int_rmul (F.args_int_rmul_2 _ _) (int_rmul_tuple 0 t l its.toArray n dd sl)
        ⟨ho, rfl, ⟨_, ho, rfl⟩, call_meets F.slot_tuple_mul ⟨_, ho, rfl⟩ F.entry_tuple_mul (F.args_tuple_mul_2 _ _) (fw_tuple_mul0 l its.toArray n dd sl 0 t (by decide) (by rw [hi]; rfl) (by simp)) ⟨ho, ?_⟩⟩)
    refine ⟨.ref s.heap.objs.size, _, I.laid (t' := s.toks) (o := .tup []) (fun b ob q => Heap.get?_push_of_some _ q) (Nat.le_refl _) ?_, rfl, q _ (I.hok.fresh (Nat.le_refl _))⟩
    exact ⟨Nat.zero_le _, [], .nil, IsTup.new _ _⟩
/-- list + list, wherever they stand -/
def rCatS (K : PySem.W.Frag) : R2 := fun x y H Q => ∃ l b xs zs, x = .ref l ∧ y = .ref b ∧ SqL K H l xs ∧ SqL K H b zs ∧ xs.length + zs.length ≤ sizeLine ∧ ∀ p, H p = none → Q (.ref p) (upd H p (.lst (xs ++ zs)))
theorem _root_.L2.Inv.lstS {X : Cx} {pins : List (Addr × Obj)} {σ : L2.St} {H : Hp} {s : Shared} {l : Addr} {xs : List V} (I : Inv X pins σ H s) (h : SqL X.K H l xs) : ∃ (its : List Value), Vals xs its ∧ xs.length = its.length ∧ ∃ o n, s.heap.get? l = some o ∧ o.cls = .type "list" ∧ o.dict = none ∧ o.data = .seq its.toArray n := by
  obtain ⟨its, rv, ⟨o, n, e, c, d, q⟩, _⟩ := I.list h
  exact ⟨its, rv, rv.length, o, n, e, c, d, q⟩
theorem op_floorW {X : Cx} : OpR X (binaryOp .FloorDiv) (rI (fun _ j => j ≠ 0 ∧ j.natAbs.log2 < 9000) fun i j => .int (i.fdiv j)) := opI fun i j _ _ _ _ _ hc q => floordiv_int hc.1 q (.inl (PyProof.noPylong_of_log2 hc.2))
end L2
set_option Elab.async false
set_option linter.all false
set_option maxRecDepth 100000
set_option maxHeartbeats 4000000
namespace L2
open PySem PySem.Spec PyProof.Rows
theorem op_catS {X : Cx} : OpR X (binaryOp .Add) (rCatS X.K) := by
  intro pins s σ H x y v u Q I rx ry h
  obtain ⟨l, b, xs, zs, rfl, rfl, hH, hB, hz, q⟩ := h
  cases rx
  cases ry
  obtain ⟨its, r, hl, ⟨cls, dd, data, sl⟩, n, ho, hc, hdd, hd⟩ := I.lstS hH
  obtain ⟨its2, r2, hl2, ⟨cls2, dd2, data2, sl2⟩, n2, ho2, hc2, hdd2, hd2⟩ := I.lstS hB
  simp only at hc hd hc2 hd2
  subst hc hd hc2 hd2
  have hsz : its.toArray.size + its2.toArray.size ≤ sizeLine := by rw [List.size_toArray, List.size_toArray]; omega
  have e : its.toArray ++ its2.toArray = (its ++ its2).toArray := by simp
  refine concat_meets ⟨_, ho, rfl⟩ ⟨_, ho2, rfl⟩ noFill_list_add seq_list_add PySem.F.slot_list_add PySem.F.entry_list_add (PySem.F.args_list_add_2 _ _) (list_addW l b its.toArray its2.toArray n n2 dd dd2 sl sl2 hsz) ⟨ho, ho2, ?_⟩
  rw [e]
  exact ⟨.ref _, _, I.lnew (t' := s.toks) (r.append r2) (by rw [List.length_append]; omega), rfl, q _ I.fresh⟩
end L2
namespace Fw
open PySem PySem.Spec PyProof.Rows L2
section
variable {X : Cx} {ex : Nat → Addr}
theorem DqAll.appW {K : PySem.W.Frag} {H : Hp} {ds es : List PyData} {vs us : List V} (a : DqAll K H vs ds) (b : DqAll K H us es) : DqAll K H (vs ++ us) (ds ++ es) := Fw.DqAll.app a b
theorem DqAll.rep {K : PySem.W.Frag} {H : Hp} {ds : List PyData} {vs : List V} (a : DqAll K H vs ds) : ∀ k : Nat, DqAll K H (List.replicate k vs).flatten (List.replicate k ds).flatten
  | 0 => .nil
  | k + 1 => by
    rw [List.replicate_succ, List.replicate_succ, List.flatten_cons, List.flatten_cons]
    exact Fw.DqAll.app a (DqAll.rep a k)
theorem o_add : OpR X (binaryOp .Add) (rd2 (kxOf X ex) (lift2 1 addP)) := by
  intro pins s σ H x y v u Q I rx ry h
  obtain ⟨w, d1, d2, st, r1, r2, hH, d, st', e, fin⟩ := h
  obtain ⟨a, b, r, e1, e2, e3, rfl, rfl⟩ := lift2_ok e
  have q1 := view1_ok hH r1 e1
  have q2 := view1_ok hH r2 e2
  unfold addP at e3
  split at e3
  · rename_i i j
    cases e3
    have q1' : Dq X.K w.W x (.int i) := q1
    have q2' : Dq X.K w.W y (.int j) := q2
    have z1 := Dq.int_inv q1'
    have z2 := Dq.int_inv q2'
    subst z1 z2
    exact op_add pins s σ H _ _ v u Q I rx ry ⟨i, j, rfl, rfl, fin_here (κ := kxOf X ex) hH (.int _) fin⟩
  · rename_i i j
    split at e3
    · rename_i hl
      cases e3
      have q1' : Dq X.K w.W x (.str i) := q1
      have q2' : Dq X.K w.W y (.str j) := q2
      have z1 := Dq.str_inv q1'
      have z2 := Dq.str_inv q2'
      subst z1 z2
      exact op_add_str pins s σ H _ _ v u Q I rx ry ⟨i, j, rfl, rfl, lim_line hl, fin_here (κ := kxOf X ex) hH (.str _) fin⟩
    · cases e3
  · rename_i xs ys
    split at e3
    · rename_i hl
      cases e3
      have q1' : Dq X.K w.W x (.tuple xs) := q1
      have q2' : Dq X.K w.W y (.tuple ys) := q2
      obtain ⟨a, vs, rfl, s1, a1⟩ := Dq.tup_inv q1'
      obtain ⟨b, us, rfl, s2, a2⟩ := Dq.tup_inv q2'
      have m1 := sqT_mono (fun _ _ e => hH.wd e) s1
      have m2 := sqT_mono (fun _ _ e => hH.wd e) s2
      have l1 := Fw.DqAll.length a1
      have l2 := Fw.DqAll.length a2
      refine op_catA pins s σ H _ _ v u Q I rx ry ⟨a, b, vs, us, rfl, rfl, m1, m2, lim_line (by omega), fun z => ?_, fun _ z => ?_, fun _ _ p np => ?_⟩
      · subst z
        cases a1
        exact fin_here (κ := kxOf X ex) hH q2' fin
      · subst z
        cases a2
        rw [List.append_nil] at fin
        exact fin_here (κ := kxOf X ex) hH q1' fin
      · exact fin_tup (κ := kxOf X ex) hH np (Fw.DqAll.app a1 a2) fin
    · cases e3
  · rename_i xs ys
    split at e3
    · rename_i hl
      cases e3
      obtain ⟨a, vs, rfl, s1, a1⟩ := q1
      obtain ⟨b, us, rfl, s2, a2⟩ := q2
      have l1 := Fw.DqAll.length a1
      have l2 := Fw.DqAll.length a2
      exact op_catS pins s σ H _ _ v u Q I rx ry ⟨a, b, vs, us, rfl, rfl, s1, s2, lim_line (by omega), fun p np => fin_lst (κ := kxOf X ex) hH np (Fw.DqAll.app a1 a2) fin⟩
    · cases e3
  · cases e3
theorem o_int2 {op : Operator} {C : Int → Int → Prop} {g : Int → Int → Int} {f : PyData → PyData → Option PyData} (ho : OpR X (binaryOp op) (rI C fun i j => .int (g i j)))
    (hf : ∀ a b r, f a b = some r → ∃ i j, a = .int i ∧ b = .int j ∧ C i j ∧ r = .int (g i j)) : OpR X (binaryOp op) (rd2 (kxOf X ex) (lift2 1 f)) := by
  intro pins s σ H x y v u Q I rx ry h
  obtain ⟨w, d1, d2, st, r1, r2, hH, d, st', e, fin⟩ := h
  obtain ⟨a, b, r, e1, e2, e3, rfl, rfl⟩ := lift2_ok e
  have q1 := view1_ok hH r1 e1
  have q2 := view1_ok hH r2 e2
  obtain ⟨i, j, rfl, rfl, hc, rfl⟩ := hf a b r e3
  have q1' : Dq X.K w.W x (.int i) := q1
  have q2' : Dq X.K w.W y (.int j) := q2
  have z1 := Dq.int_inv q1'
  have z2 := Dq.int_inv q2'
  subst z1 z2
  exact ho pins s σ H _ _ v u Q I rx ry ⟨i, j, rfl, rfl, hc, fin_here (κ := kxOf X ex) hH (.int _) fin⟩
theorem o_sub : OpR X (binaryOp .Sub) (rd2 (kxOf X ex) (lift2 1 subP)) := o_int2 (C := fun _ _ => True) (g := fun i j => i - j) (op_sub.wk fun _ _ _ _ ⟨i, j, a, b, _, q⟩ => ⟨i, j, a, b, q⟩) fun a b r h => by
  unfold subP at h
  split at h
  · cases h; exact ⟨_, _, rfl, rfl, trivial, rfl⟩
  · cases h
theorem o_fdiv : OpR X (binaryOp .FloorDiv) (rd2 (kxOf X ex) (lift2 1 fdivP)) := o_int2 op_floorW fun a b r h => by
  unfold fdivP at h
  split at h
  · split at h
    · cases h; exact ⟨_, _, rfl, rfl, by assumption, rfl⟩
    · cases h
  · cases h
theorem o_mod : OpR X (binaryOp .Mod) (rd2 (kxOf X ex) (lift2 1 modP)) := o_int2 op_modN fun a b r h => by
  unfold modP at h
  split at h
  · split at h
    · cases h; exact ⟨_, _, rfl, rfl, by assumption, rfl⟩
    · cases h
  · cases h
theorem o_mul : OpR X (binaryOp .Mult) (rd2 (kxOf X ex) (lift2 1 mulP)) := by
  intro pins s σ H x y v u Q I rx ry h
  obtain ⟨w, d1, d2, st, r1, r2, hH, d, st', e, fin⟩ := h
  obtain ⟨a, b, r, e1, e2, e3, rfl, rfl⟩ := lift2_ok e
  have q1 := view1_ok hH r1 e1
  have q2 := view1_ok hH r2 e2
  unfold mulP at e3
  split at e3
  · rename_i i j
    split at e3
    · rename_i hm
      cases e3
      have q1' : Dq X.K w.W x (.int i) := q1
      have q2' : Dq X.K w.W y (.int j) := q2
      have z1 := Dq.int_inv q1'
      have z2 := Dq.int_inv q2'
      subst z1 z2
      exact op_mulW pins s σ H _ _ v u Q I rx ry ⟨i, j, rfl, rfl, show i.natAbs.log2 + j.natAbs.log2 < 1000000 from of_decide_eq_true hm, fin_here (κ := kxOf X ex) hH (.int _) fin⟩
    · cases e3
  · rename_i xs k
    split at e3
    · rename_i hc
      obtain ⟨h0, h1, hl, hne⟩ := hc
      cases e3
      have q1' : Dq X.K w.W x (.tuple xs) := q1
      have q2' : Dq X.K w.W y (.int k) := q2
      have z2 := Dq.int_inv q2'
      subst z2
      obtain ⟨a, vs, rfl, s1, a1⟩ := Dq.tup_inv q1'
      have m1 := sqT_mono (fun _ _ e => hH.wd e) s1
      have l1 := Fw.DqAll.length a1
      have nv : vs ≠ [] := fun z => by
        subst z
        exact hne (List.eq_nil_of_length_eq_zero l1.symm)
      by_cases k1 : k = 1
      · subst k1
        refine op_repS pins s σ H _ _ v u Q I rx ry ⟨a, 1, vs, rfl, rfl, m1, nv, .inl ⟨rfl, ?_⟩⟩
        have fl : (List.replicate (1 : Int).toNat xs).flatten = xs := by simp
        rw [fl] at fin
        exact fin_here (κ := kxOf X ex) hH q1' fin
      · by_cases k0 : k = 0
        · subst k0
          exact op_repS pins s σ H _ _ v u Q I rx ry ⟨a, 0, vs, rfl, rfl, m1, nv, .inr ⟨rfl, fun p np => fin_tup (κ := kxOf X ex) hH np (.nil : DqAll X.K w.W [] []) (by simpa using fin)⟩⟩
        · exact op_repT pins s σ H _ _ v u Q I rx ry ⟨a, k, vs, rfl, rfl, m1, nv, by omega, h1, by omega, fun p np => fin_tup (κ := kxOf X ex) hH np (DqAll.rep a1 _) fin⟩
    · cases e3
  · cases e3
theorem o_neg : UnR X (unaryOp .USub) (rd1 (kxOf X ex) (lift1 1 negP)) := by
  intro pins s σ H x v Q I rx h
  obtain ⟨w, d1, st, r1, hH, d, st', e, fin⟩ := h
  obtain ⟨a, r, e1, e3, rfl, rfl⟩ := lift1_ok e
  have q1 := view1_ok hH r1 e1
  unfold negP at e3
  split at e3
  · rename_i i
    cases e3
    have q1' : Dq X.K w.W x (.int i) := q1
    have z1 := Dq.int_inv q1'
    subst z1
    exact un_neg pins s σ H _ v Q I rx ⟨i, rfl, fin_here (κ := kxOf X ex) hH (.int _) fin⟩
  · cases e3

/-! ## comparisons -/
def okD (x y : PyData) : Bool := decide (min x.depth y.depth ≤ 64)
def eqQ (x y : PyData) : Option PyData := if okD x y = true then some (.bool (PyData.eqv x y)) else none
def neQ (x y : PyData) : Option PyData := if okD x y = true then some (.bool (!PyData.eqv x y)) else none
def notNone : PyData → Bool
  | .none => false
  | _ => true
theorem notNone_ne {x : PyData} (h : notNone x = true) : x ≠ .none := by rintro rfl; cases h
def cmpOk (x y : PyData) : Bool := PySem.W.alike x y && notNone x && okD x y
theorem cmpOk_of {x y : PyData} (h : cmpOk x y = true) : PySem.W.alike x y = true ∧ x ≠ .none ∧ min x.depth y.depth ≤ 64 := by
  unfold cmpOk at h
  rw [Bool.and_eq_true, Bool.and_eq_true] at h
  exact ⟨h.1.1, notNone_ne h.1.2, of_decide_eq_true h.2⟩
def ltQ (x y : PyData) : Option PyData := if cmpOk x y = true then some (.bool (PySem.W.dataLt x y)) else none
def gtQ (x y : PyData) : Option PyData := if cmpOk x y = true then some (.bool (PySem.W.dataLt y x)) else none
def leQ (x y : PyData) : Option PyData := if cmpOk x y = true then some (.bool (!PySem.W.dataLt y x)) else none
def geQ (x y : PyData) : Option PyData := if cmpOk x y = true then some (.bool (!PySem.W.dataLt x y)) else none
def eqP (x y : PyData) : Option PyData := eqQ (nm x) (nm y)
def neP (x y : PyData) : Option PyData := neQ (nm x) (nm y)
def ltP (x y : PyData) : Option PyData := ltQ (nm x) (nm y)
def gtP (x y : PyData) : Option PyData := gtQ (nm x) (nm y)
def leP (x y : PyData) : Option PyData := leQ (nm x) (nm y)
def geP (x y : PyData) : Option PyData := geQ (nm x) (nm y)
/-- a comparison by data -/
theorem o_cmp {op : CmpOp} {f : PyData → PyData → Option PyData} {k : Nat} (hk : k = 3)
    (hf : ∀ (pins : List (Addr × Obj)) (s : Shared) (σ : L2.St) (H : Hp) (x y : V) (v u : Value) (Q : VK) (a b r : PyData) (as bs : List Addr), Inv X pins σ H s → Reads s.heap v a as → Reads s.heap u b bs → a.plain = true → b.plain = true → f a b = some r →
      ∃ t, r = .bool t ∧ ∀ Q' : Value → Shared → Prop, Q' (.bool t) s → wpAny (model X.prog X.w) X.A (compareOp op v u) Q' X.xe s) : OpR X (compareOp op) (rd2 (kxOf X ex) (lift2 k fun x y => f (nm x) (nm y))) := by
  subst hk
  intro pins s σ H x y v u Q I rx ry h
  obtain ⟨w, d1, d2, st, r1, r2, hH, d, st', e, fin⟩ := h
  obtain ⟨a, b, r, e1, e2, e3, rfl, rfl⟩ := lift2_ok e
  have q1 := Dq.dp _ _ (view_ok hH 3 r1 e1)
  have q2 := Dq.dp _ _ (view_ok hH 3 r2 e2)
  obtain ⟨as, ra⟩ := Dp.reads I _ x v q1 rx
  obtain ⟨bs, rb⟩ := Dp.reads I _ y u q2 ry
  obtain ⟨t, rfl, hh⟩ := hf pins s σ H x y v u Q (nm a) (nm b) r as bs I ra rb (Dp.plain q1) (Dp.plain q2) e3
  exact hh _ ⟨.bl t, H, I, rfl, fin_here (κ := kxOf X ex) hH (.bl t) fin⟩
theorem o_eq (hu : X.A.units + 64 < cLine) : OpR X (compareOp .Eq) (rd2 (kxOf X ex) (lift2 3 eqP)) := o_cmp (f := eqQ) rfl fun pins s σ H x y v u Q a b r as bs I ra rb pa pb h => by
  unfold eqQ at h
  split at h
  · rename_i hd
    cases h
    have hd' : min a.depth b.depth ≤ 64 := of_decide_eq_true hd
    exact ⟨_, rfl, fun Q' q => SeqAt.eq_plain ra rb pa pb (by omega) q⟩
  · cases h
theorem o_ne (hu : X.A.units + 64 < cLine) : OpR X (compareOp .NotEq) (rd2 (kxOf X ex) (lift2 3 neP)) := o_cmp (f := neQ) rfl fun pins s σ H x y v u Q a b r as bs I ra rb pa pb h => by
  unfold neQ at h
  split at h
  · rename_i hd
    cases h
    have hd' : min a.depth b.depth ≤ 64 := of_decide_eq_true hd
    exact ⟨_, rfl, fun Q' q => SeqAt.ne_plain ra rb pa pb (by omega) q⟩
  · cases h
theorem o_lt (hu : X.A.units + 64 < cLine) : OpR X (compareOp .Lt) (rd2 (kxOf X ex) (lift2 3 ltP)) := o_cmp (f := ltQ) rfl fun pins s σ H x y v u Q a b r as bs I ra rb pa pb h => by
  unfold ltQ at h
  split at h
  · rename_i hc
    cases h
    obtain ⟨h1, h2, h3⟩ := cmpOk_of hc
    exact ⟨_, rfl, fun Q' q => PySem.W.lt_data ra rb h1 h2 (by omega) q⟩
  · cases h
theorem o_gt (hu : X.A.units + 64 < cLine) : OpR X (compareOp .Gt) (rd2 (kxOf X ex) (lift2 3 gtP)) := o_cmp (f := gtQ) rfl fun pins s σ H x y v u Q a b r as bs I ra rb pa pb h => by
  unfold gtQ at h
  split at h
  · rename_i hc
    cases h
    obtain ⟨h1, h2, h3⟩ := cmpOk_of hc
    exact ⟨_, rfl, fun Q' q => PySem.W.gt_data ra rb h1 h2 (by omega) q⟩
  · cases h
theorem o_le (hu : X.A.units + 64 < cLine) : OpR X (compareOp .LtE) (rd2 (kxOf X ex) (lift2 3 leP)) := o_cmp (f := leQ) rfl fun pins s σ H x y v u Q a b r as bs I ra rb pa pb h => by
  unfold leQ at h
  split at h
  · rename_i hc
    cases h
    obtain ⟨h1, h2, h3⟩ := cmpOk_of hc
    exact ⟨_, rfl, fun Q' q => PySem.W.le_data ra rb h1 h2 (by omega) q⟩
  · cases h
theorem o_ge (hu : X.A.units + 64 < cLine) : OpR X (compareOp .GtE) (rd2 (kxOf X ex) (lift2 3 geP)) := o_cmp (f := geQ) rfl fun pins s σ H x y v u Q a b r as bs I ra rb pa pb h => by
  unfold geQ at h
  split at h
  · rename_i hc
    cases h
    obtain ⟨h1, h2, h3⟩ := cmpOk_of hc
    exact ⟨_, rfl, fun Q' q => PySem.W.ge_data ra rb h1 h2 (by omega) q⟩
  · cases h
/-- x in c: a list or a tuple of data -/
def inQ (neg : Bool) (x c : PyData) : Option PyData := match c with
  | .list xs => if min (PyData.depthAll xs) x.depth ≤ 60 then some (.bool (if neg = true then !xs.any fun y => PyData.eqv y x else xs.any fun y => PyData.eqv y x)) else none
  | .tuple xs => if min (PyData.depthAll xs) x.depth ≤ 60 then some (.bool (if neg = true then !xs.any fun y => PyData.eqv y x else xs.any fun y => PyData.eqv y x)) else none
  | _ => none
def inP (neg : Bool) (x c : PyData) : Option PyData := inQ neg (nm x) (nm c)
theorem plain_list {xs : List PyData} (h : (PyData.list xs).plain = true) : PyData.plainAll xs = true := by simpa only [PyData.plain] using h
theorem plain_tuple {xs : List PyData} (h : (PyData.tuple xs).plain = true) : PyData.plainAll xs = true := by simpa only [PyData.plain] using h
theorem o_in (hu : X.A.units + 64 < cLine) : OpR X (compareOp .In) (rd2 (kxOf X ex) (lift2 3 (inP false))) := o_cmp (f := inQ false) rfl fun pins s σ H x y v u Q a b r as bs I ra rb pa pb h => by
  unfold inQ at h
  split at h
  · split at h
    · rename_i hd
      cases h
      exact ⟨_, rfl, fun Q' q => SeqAt.in_list_data rb ra (plain_list pb) pa (by omega) (by simpa using q)⟩
    · cases h
  · split at h
    · rename_i hd
      cases h
      exact ⟨_, rfl, fun Q' q => SeqAt.in_tuple_data rb ra (plain_tuple pb) pa (by omega) (by simpa using q)⟩
    · cases h
  · cases h
theorem o_notin (hu : X.A.units + 64 < cLine) : OpR X (compareOp .NotIn) (rd2 (kxOf X ex) (lift2 3 (inP true))) := o_cmp (f := inQ true) rfl fun pins s σ H x y v u Q a b r as bs I ra rb pa pb h => by
  unfold inQ at h
  split at h
  · split at h
    · rename_i hd
      cases h
      exact ⟨_, rfl, fun Q' q => SeqAt.notIn_list_data rb ra (plain_list pb) pa (by omega) (by simpa using q)⟩
    · cases h
  · split at h
    · rename_i hd
      cases h
      exact ⟨_, rfl, fun Q' q => SeqAt.notIn_tuple_data rb ra (plain_tuple pb) pa (by omega) (by simpa using q)⟩
    · cases h
  · cases h
/-- is None, is not None; is True .. -/
def isP (neg : Bool) (x y : PyData) : Option PyData := match y with
  | .none => some (.bool (if neg = true then notNone x else !notNone x))
  | .bool b => match x with
    | .bool a => some (.bool (if neg = true then !decide (a = b) else decide (a = b)))
    | _ => none
  | _ => none
theorem dec_none {v : V} {x : PyData} {K : PySem.W.Frag} {H : Hp} (r : Dq K H v x) : decide (v = .non) = !notNone x := by
  cases r <;> rfl
theorem o_is : OpR X (compareOp .Is) (rd2 (kxOf X ex) (lift2 1 (isP false))) := by
  intro pins s σ H x y v u Q I rx ry h
  obtain ⟨w, d1, d2, st, r1, r2, hH, d, st', e, fin⟩ := h
  obtain ⟨a, b, r, e1, e2, e3, rfl, rfl⟩ := lift2_ok e
  have q1 := (view1_ok hH r1 e1).dp hH
  have q2 := (view1_ok hH r2 e2).dp hH
  unfold isP at e3
  split at e3
  · cases e3
    cases q2
    refine op_isN pins s σ H _ _ v u Q I rx ry ⟨rfl, ?_⟩
    rw [dec_none q1]
    exact fin_here (κ := kxOf X ex) hH (.bl _) fin
  · split at e3
    · cases e3
      cases q1
      cases q2
      exact op_isBl pins s σ H _ _ v u Q I rx ry ⟨_, _, rfl, rfl, fin_here (κ := kxOf X ex) hH (.bl _) fin⟩
    · cases e3
  · cases e3
theorem o_isnot : OpR X (compareOp .IsNot) (rd2 (kxOf X ex) (lift2 1 (isP true))) := by
  intro pins s σ H x y v u Q I rx ry h
  obtain ⟨w, d1, d2, st, r1, r2, hH, d, st', e, fin⟩ := h
  obtain ⟨a, b, r, e1, e2, e3, rfl, rfl⟩ := lift2_ok e
  have q1 := (view1_ok hH r1 e1).dp hH
  have q2 := (view1_ok hH r2 e2).dp hH
  unfold isP at e3
  split at e3
  · cases e3
    cases q2
    refine op_notN pins s σ H _ _ v u Q I rx ry ⟨rfl, ?_⟩
    rw [dec_none q1, Bool.not_not]
    exact fin_here (κ := kxOf X ex) hH (.bl _) fin
  · split at e3
    · cases e3
      cases q1
      cases q2
      exact op_notBl pins s σ H _ _ v u Q I rx ry ⟨_, _, rfl, rfl, fin_here (κ := kxOf X ex) hH (.bl _) fin⟩
    · cases e3
  · cases e3

/-! ## subscripts, slices -/
def at1 {α : Type} (xs : List α) (i : Int) : Option α := atI xs i
/-- o[i]: of a tuple, a list, a mutable list, a text; d[k] -/
def strAt (z : Str) (i : Int) : Option PyData := if z.length ≤ 1000000 then (atI z.cps.toList i).map fun c => .str ⟨#[c]⟩ else none
def keyOf : PyData → Option Key
  | .int i => some (.inl i)
  | .str s => some (.inr s)
  | _ => none
def keyT : PyData → Option (List Key)
  | .tuple xs => xs.mapM keyOf
  | _ => none
def ixG : Fn2 := fun o i st => match o, i with
  | .p x, .p (.int k) => (match x with
    | .list xs => (atI xs k).map fun x => (.p x, st)
    | .str z => (strAt z k).map fun x => (.p x, st)
    | y => (match opn y with
      | some xs => (atI xs k).map fun x => (.p x, st)
      | none => none))
  | .loc n, .p k => match st[n]? with
    | some (.lst ds) => match k with
      | .int j => (atI ds j).map fun x => (x, st)
      | _ => none
    | _ => none
  | _, _ => none
theorem ixN_lt {n : Nat} {i : Int} {j : Nat} (h : ixN n i = some j) : j < n := by
  unfold ixN at h
  split at h
  · split at h
    · cases h; omega
    · cases h
  · split at h
    · cases h; omega
    · cases h
theorem atI_rel {α β : Type} {xs : List α} {ys : List β} {k : Int} {x : α} (hl : xs.length = ys.length) (h : atI xs k = some x) : ∃ (j : Nat) (y : β), xs[j]? = some x ∧ ys[j]? = some y ∧ atI ys k = some y := by
  unfold atI at h
  cases q : ixN xs.length k with
  | none => rw [q] at h; cases h
  | some j =>
    rw [q] at h
    have h' : xs[j]? = some x := h
    have hj : j < ys.length := by rw [← hl]; exact ixN_lt q
    refine ⟨j, ys[j], h', by simp [hj], ?_⟩
    unfold atI
    rw [← hl, q]
    simp [hj]
theorem o_ix : IxR X (rd2 (kxOf X ex) ixG) := by
  intro value slice pins s σ H x y v u Q I rx ry h hs
  obtain ⟨w, d1, d2, st, r1, r2, hH, d, st', e, fin⟩ := h
  unfold ixG at e
  split at e
  · rename_i o k
    have r2' : Dq X.K w.W y (.int k) := r2
    have := Dq.int_inv r2'
    subst this
    have tup : ∀ xs : List PyData, opn o = some xs → (atI xs k).map (fun x => (D.p x, st)) = some (d, st') → wpAny (model X.prog X.w) X.A (subscriptTail value slice v u) (EP X pins σ Q) X.xe s := fun xs ho e => by
      cases q : atI xs k with
      | none => rw [q] at e; cases e
      | some z =>
        rw [q] at e
        cases e
        have r1' : Dq X.K w.W x o := r1
        obtain ⟨a, vs, rfl, s1, a1⟩ := Dq.opn_inv ho r1'
        obtain ⟨j, y', h1, h2, h3⟩ := atI_rel (Fw.DqAll.length a1).symm q
        obtain ⟨y'', h4, h5⟩ := DqAll.get a1 h1
        rw [h2] at h4; cases h4
        exact ix_tup value slice pins s σ H _ _ v u Q I rx ry ⟨a, vs, k, y', rfl, rfl, sqT_mono (fun _ _ e => hH.wd e) s1, h3, fin_here (κ := kxOf X ex) hH h5 fin⟩ hs
    split at e
    · rename_i xs
      cases q : atI xs k with
      | none => rw [q] at e; cases e
      | some z =>
        rw [q] at e
        cases e
        have r1' : Dq X.K w.W x (.list xs) := r1
        obtain ⟨a, vs, rfl, s1, a1⟩ := Dq.lst_inv r1'
        obtain ⟨j, y', h1, h2, h3⟩ := atI_rel (Fw.DqAll.length a1).symm q
        obtain ⟨y'', h4, h5⟩ := DqAll.get a1 h1
        rw [h2] at h4; cases h4
        exact ix_list value slice pins s σ H _ _ v u Q I rx ry ⟨a, vs, k, y', rfl, rfl, sqL_mono (fun _ _ e => hH.wd e) s1, h3, fin_here (κ := kxOf X ex) hH h5 fin⟩ hs
    · rename_i z
      unfold strAt at e
      split at e
      · rename_i hz
        cases q : atI z.cps.toList k with
        | none => rw [q] at e; cases e
        | some c =>
          rw [q] at e
          cases e
          have r1' : Dq X.K w.W x (.str z) := r1
          have := Dq.str_inv r1'
          subst this
          exact ix_str value slice pins s σ H _ _ v u Q I rx ry ⟨z, k, c, rfl, rfl, lim_line hz, q, fin_here (κ := kxOf X ex) hH (.str _) fin⟩ hs
      · cases e
    · split at e
      · rename_i xs ho
        exact tup xs ho e
      · cases e
  · rename_i n k
    cases q : st[n]? with
    | none => rw [q] at e; cases e
    | some b =>
      rw [q] at e
      cases b with
      | lst ds =>
        cases k with
        | int j =>
          have e' : (atI ds j).map (fun x => (x, st)) = some (d, st') := e
          cases q2 : atI ds j with
          | none => rw [q2] at e'; cases e'
          | some z =>
            rw [q2] at e'
            cases e'
            obtain ⟨a, rfl, ha⟩ := r1
            have r2' : Dq X.K w.W y (.int j) := r2
            have := Dq.int_inv r2'
            subst this
            obtain ⟨o, ho, vs, rfl, rl⟩ := hH.obs n a _ ha q
            obtain ⟨i, y', h1, h2, h3⟩ := atI_rel rl.length q2
            obtain ⟨y'', h4, h5⟩ := rl.get h1
            rw [h2] at h4; cases h4
            exact ix_list value slice pins s σ H _ _ v u Q I rx ry ⟨a, vs, j, y', rfl, rfl, SqL.of ho, h3, fin w H y' (Wd.Le.refl w) hH h5⟩ hs
        | _ => cases e
      | _ => cases e
  · cases e
end
end Fw
set_option Elab.async false
set_option linter.all false
set_option maxRecDepth 100000
set_option maxHeartbeats 4000000
namespace Fw
open PySem PySem.Spec PyProof.Rows L2
theorem _root_.L2.PO.wk {X : Cx} {e : Option Expr} {t t' : TO} (h : PO X e t) (q : ∀ σ H Q, t' σ H Q → t σ H Q) : PO X e t' := ⟨fun pins s σ H Q I hw => h.run pins s σ H Q I (q σ H Q hw)⟩
theorem _root_.L2.PI.wk {X : Cx} {tg e : Expr} {t t' : TI} (h : PI X tg e t) (q : ∀ σ H Q, t' σ H Q → t σ H Q) : PI X tg e t' := ⟨fun pins s σ H Q I hw => h.run pins s σ H Q I (q σ H Q hw)⟩
section
variable {X : Cx} {κ : Kx} {Wx : WX} {σ : L2.St} {H : Hp} {ma mb : Env' → M D} {ml mh : Env' → M (Option Int)} {a b e : Expr} {pos : Pos} {ex : Nat → Addr}
def rdO (κ : Kx) (m : Env' → M (Option Int)) (Wx : WX) : TO := fun σ H Q => ∃ w env st, RelE κ w env σ ∧ HoldK κ w st H ∧ PostG κ Wx σ w (m env st) (fun o _ _ H' => Q o H')
def oNone : Env' → M (Option Int) := fun _ => ret none
def asI (d : D) : Option Int := match d with
  | .p (.int i) => some i
  | _ => none
theorem asI_shape {x : D} {w : Wd} {v : V} {i : Int} (r : RelD κ.K w x v) (e : asI x = some i) : v = .int i := by
  cases x with
  | loc n => cases e
  | p y =>
    cases y with
    | int j =>
      cases e
      have r' : Dq κ.K w.W v (.int i) := r
      exact Dq.int_inv r'
    | _ => cases e
def oSome (m : Env' → M D) : Env' → M (Option Int) := fun env => bnd (m env) fun d => match asI d with
  | some i => ret (some i)
  | none => bad
theorem r_onone : PO X none (rdO κ oNone Wx) := po_none.wk fun σ H Q h => by
  obtain ⟨w, env, st, hE, hH, hp⟩ := h
  exact PostG.ret (C := fun o _ _ H' => Q o H') hH hp
theorem r_osome (ha : PE X a (rdE κ ma Wx)) : PO X (some a) (rdO κ (oSome ma) Wx) := (po_some ha).wk fun σ H Q h => by
  obtain ⟨w, env, st, hE, hH, hp⟩ := h
  obtain ⟨w0, env0, st0, a0, b0, c0⟩ := rd_one hE hH hp
  refine ⟨w0, env0, st0, a0, b0, c0.imp fun d st' w' H' le hh q v rv => ?_⟩
  obtain ⟨w1, x, st1, _, r1, _, hH1, hp1⟩ := q v rv
  cases q2 : asI x with
  | none => rw [q2] at hp1; exact hp1.elim
  | some i =>
    rw [q2] at hp1
    exact ⟨i, asI_shape r1 q2, PostG.ret (C := fun o _ _ H' => Q o H') hH1 hp1⟩
/-- slices -/
def cutL {α : Type} (xs : List α) (lo hi : Option Int) : List α := (xs.drop (HT.sIx xs.length 0 lo)).take (HT.sIx xs.length xs.length hi - HT.sIx xs.length 0 lo)
def slP (x : PyData) (lo hi : Option Int) : Option PyData := match x with
  | .tuple xs => some (.tuple (cutL xs lo hi))
  | .list xs => some (.list (cutL xs lo hi))
  | _ => none
def mSl (ma : Env' → M D) (ml mh : Env' → M (Option Int)) : Env' → M D := fun env => bnd (ma env) fun x => bnd (ml env) fun lo => bnd (mh env) fun hi => lft (lift1 1 (fun y => slP y lo hi) x)
theorem DqAll.drop {K : PySem.W.Frag} {H : Hp} : ∀ {ds : List PyData} {vs : List V} (n : Nat), DqAll K H vs ds → DqAll K H (vs.drop n) (ds.drop n)
  | _, _, 0, r => r
  | [], _, n + 1, r => by cases r; exact .nil
  | d :: ds, _, n + 1, r => by
    cases r with
    | cons a b => exact DqAll.drop n b
theorem DqAll.take {K : PySem.W.Frag} {H : Hp} : ∀ {ds : List PyData} {vs : List V} (n : Nat), DqAll K H vs ds → DqAll K H (vs.take n) (ds.take n)
  | _, _, 0, r => .nil
  | [], _, n + 1, r => by cases r; exact .nil
  | d :: ds, _, n + 1, r => by
    cases r with
    | cons a b => exact .cons a (DqAll.take n b)
theorem DqAll.cut {K : PySem.W.Frag} {H : Hp} {ds : List PyData} {vs : List V} (lo hi : Option Int) (r : DqAll K H vs ds) : DqAll K H (cutV vs lo hi) (cutL ds lo hi) := by
  unfold cutV cutL
  rw [Fw.DqAll.length r]
  exact DqAll.take _ (DqAll.drop _ r)
def rdSl (κ : Kx) : V → Option Int → Option Int → Hp → VK → Prop := fun v lo hi H Q => ∃ w x st, RelD κ.K w x v ∧ HoldK κ w st H ∧ Fin κ w (lift1 1 (fun y => slP y lo hi) x st) Q
theorem SlR_ok : SlR X (rdSl (kxOf X ex)) := by
  intro pins s σ H x v vl vu lo hi sl Q I rx hs pl pu h
  obtain ⟨w, d1, st, r1, hH, d, st', e, fin⟩ := h
  obtain ⟨a, r, e1, e3, rfl, rfl⟩ := lift1_ok e
  have q1 := view1_ok hH r1 e1
  unfold slP at e3
  split at e3
  · rename_i xs
    cases e3
    have q1' : Dq X.K w.W x (.tuple xs) := q1
    obtain ⟨b, vs, rfl, s1, a1⟩ := Dq.tup_inv q1'
    have l1 := Fw.DqAll.length a1
    refine sl_tupA pins s σ H _ v vl vu lo hi sl Q I rx hs pl pu ⟨b, vs, rfl, sqT_mono (fun _ _ e => hH.wd e) s1, fun z => ?_, fun _ p np => fin_tup (κ := kxOf X ex) hH np (DqAll.cut lo hi a1) fin⟩
    have e4 : cutL xs lo hi = xs := by
      unfold cutL
      rw [l1] at z
      rw [z.1, z.2]
      simp
    rw [e4] at fin
    exact fin_here (κ := kxOf X ex) hH q1' fin
  · rename_i xs
    cases e3
    obtain ⟨b, vs, rfl, s1, a1⟩ := q1
    exact sl_list pins s σ H _ v vl vu lo hi sl Q I rx hs pl pu ⟨b, vs, rfl, s1, fun p np => fin_lst (κ := kxOf X ex) hH np (DqAll.cut lo hi a1) fin⟩
  · cases e3
variable {lo hi : Option Expr} {p2 : Pos}
theorem r_slice (ha : PE X a (rdE (kxOf X ex) ma Wx)) (hl : PO X lo (rdO (kxOf X ex) ml Wx)) (hu : PO X hi (rdO (kxOf X ex) mh Wx)) : PE X (.Subscript a (.Slice lo hi none p2) pos) (rdE (kxOf X ex) (mSl ma ml mh) Wx) := (pe_slice SlR_ok ha hl hu).wk fun σ H Q h => by
  obtain ⟨w, env, st, hE, hH, hp⟩ := h
  obtain ⟨w0, env0, st0, a0, b0, c0⟩ := rd_one hE hH hp
  refine ⟨w0, env0, st0, a0, b0, c0.imp fun d st' w' H' le hh q v rv => ?_⟩
  obtain ⟨w1, x, st1, _, r1, hE1, hH1, hp1⟩ := q v rv
  refine ⟨w1, env, st1, hE1, hH1, (PostG.bnd hp1).imp fun lo st2 w2 H2 le2 hH2 hp2 => ?_⟩
  refine ⟨w2, env, st2, hE1.mono le2, hH2, (PostG.bnd hp2).imp fun hi st3 w3 H3 le3 hH3 hp3 => ?_⟩
  exact ⟨w3, x, st3, r1.mono (le2.trans le3), hH3, Fin.of hp3⟩
/-- xs[::-1] of a list -/
def revP : PyData → Option PyData
  | .list xs => some (.list xs.reverse)
  | _ => none
theorem DqAll.rev {K : PySem.W.Frag} {H : Hp} : ∀ {ds : List PyData} {vs : List V}, DqAll K H vs ds → DqAll K H vs.reverse ds.reverse
  | [], _, r => by cases r; exact .nil
  | d :: ds, _, r => by
    cases r with
    | cons a b =>
      rw [List.reverse_cons, List.reverse_cons]
      exact Fw.DqAll.app (DqAll.rev b) (.cons a .nil)
theorem r_revL {k : Nat} {p1 p2 p3 : Pos} (ha : PE X a (rdE (kxOf X ex) ma Wx)) : PE X (.Subscript a (.Slice none none (some (.UnaryOp .USub (.Constant (.int 1) k p1) p2)) p3) pos) (rdE (kxOf X ex) (m1 ma (lift1 1 revP)) Wx) := (pe_revL ha).wk fun σ H Q h => by
  obtain ⟨w0, env0, st0, a0, b0, c0⟩ := rd_m1 h
  refine ⟨w0, env0, st0, a0, b0, c0.imp fun d st' w' H' le hh q v rv => ?_⟩
  obtain ⟨w1, x, st1, r1, hH1, d', st2, e, fin⟩ := q v rv
  obtain ⟨y, r, e1, e3, rfl, rfl⟩ := lift1_ok e
  have q1 := view1_ok hH1 r1 e1
  unfold revP at e3
  split at e3
  · cases e3
    obtain ⟨b, vs, rfl, s1, a1⟩ := q1
    exact ⟨b, vs, rfl, s1, fun p np => fin_lst (κ := kxOf X ex) hH1 np (DqAll.rev a1) fin⟩
  · cases e3
end

/-! ## calls of built-ins -/
def gL1 (f : Fn1) : FnL := fun ds st => match ds with
  | [d] => f d st
  | _ => none
def gL2 (f : Fn2) : FnL := fun ds st => match ds with
  | [d, e] => f d e st
  | _ => none
theorem CallR.wk {X : Cx} {f : Value} {r r' : List V → Hp → VK → Prop} (h : CallR X f r) (q : ∀ vs H Q, r' vs H Q → r vs H Q) : CallR X f r' := fun pins s σ H vs us Q I rv hw => h pins s σ H vs us Q I rv (q _ _ _ hw)
section
variable {X : Cx} {κ : Kx} {ex : Nat → Addr} {H : Hp} {Q : VK} {vs : List V}
theorem gL1_inv {f : Fn1} (h : rdL κ (gL1 f) vs H Q) : ∃ w x v st, vs = [v] ∧ RelD κ.K w x v ∧ HoldK κ w st H ∧ Fin κ w (f x st) Q := by
  obtain ⟨w, xs, st, rl, hH, d, st', e, fin⟩ := h
  unfold gL1 at e
  split at e
  · cases rl with
    | cons r1 r2 =>
      cases r2
      exact ⟨w, _, _, st, rfl, r1, hH, d, st', e, fin⟩
  · cases e
theorem gL2_inv {f : Fn2} (h : rdL κ (gL2 f) vs H Q) : ∃ w x y v u st, vs = [v, u] ∧ RelD κ.K w x v ∧ RelD κ.K w y u ∧ HoldK κ w st H ∧ Fin κ w (f x y st) Q := by
  obtain ⟨w, xs, st, rl, hH, d, st', e, fin⟩ := h
  unfold gL2 at e
  split at e
  · cases rl with
    | cons r1 r2 =>
      cases r2 with
      | cons r2 r3 =>
        cases r3
        exact ⟨w, _, _, _, _, st, rfl, r1, r2, hH, d, st', e, fin⟩
  · cases e
/-- len -/
def lenG : Fn1 := fun d st => match d with
  | .p x => (match x with
    | .list xs => some (.p (.int xs.length), st)
    | .str z => if z.length ≤ 1000000 then some (.p (.int z.length), st) else none
    | y => (match opn y with
      | some xs => some (.p (.int xs.length), st)
      | none => none))
  | .loc n => match st[n]? with
    | some (.lst ds) => some (.p (.int ds.length), st)
    | _ => none
theorem c_len : CallR X (.builtin "len") (rdL (kxOf X ex) (gL1 lenG)) := by
  intro pins s σ H vs us Q I rv h
  obtain ⟨w, x, v, st, rfl, r1, hH, d, st', e, fin⟩ := gL1_inv h
  unfold lenG at e
  split at e
  · rename_i o
    split at e
    · rename_i xs
      cases e
      have r1' : Dq X.K w.W v (.list xs) := r1
      obtain ⟨b, vs, rfl, s1, a1⟩ := Dq.lst_inv r1'
      rw [← Fw.DqAll.length a1] at fin
      exact call_len_seq pins s σ H _ us Q I rv ⟨b, vs, rfl, .inl (sqL_mono (fun _ _ e => hH.wd e) s1), fin_here (κ := kxOf X ex) hH (.int _) fin⟩
    · rename_i z
      split at e
      · rename_i hz
        cases e
        have r1' : Dq X.K w.W v (.str z) := r1
        have := Dq.str_inv r1'
        subst this
        exact call_len_str pins s σ H _ us Q I rv ⟨z, rfl, lim_line hz, fin_here (κ := kxOf X ex) hH (.int _) fin⟩
      · cases e
    · split at e
      · rename_i xs ho
        cases e
        have r1' : Dq X.K w.W v o := r1
        obtain ⟨b, vs, rfl, s1, a1⟩ := Dq.opn_inv ho r1'
        rw [← Fw.DqAll.length a1] at fin
        exact call_len_seq pins s σ H _ us Q I rv ⟨b, vs, rfl, .inr (sqT_mono (fun _ _ e => hH.wd e) s1), fin_here (κ := kxOf X ex) hH (.int _) fin⟩
      · cases e
  · rename_i n
    split at e
    · rename_i ds q
      cases e
      obtain ⟨a, rfl, ha⟩ := r1
      obtain ⟨o, ho, vs, rfl, rl⟩ := hH.obs n a _ ha q
      rw [rl.length] at fin
      exact call_len_seq pins s σ H _ us Q I rv ⟨a, vs, rfl, .inl (SqL.of ho), fin_here (κ := kxOf X ex) hH (.int _) fin⟩
    · cases e
/-- abs, int -/
def absP : PyData → Option PyData
  | .int i => some (.int (if i < 0 then -i else i))
  | _ => none
def intP : PyData → Option PyData
  | .int i => some (.int i)
  | .bool b => some (.int (if b then 1 else 0))
  | _ => none
theorem c_abs : CallR X (.builtin "abs") (rdL (kxOf X ex) (gL1 (lift1 1 absP))) := by
  intro pins s σ H vs us Q I rv h
  obtain ⟨w, x, v, st, rfl, r1, hH, d, st', e, fin⟩ := gL1_inv h
  obtain ⟨y, r, e1, e3, rfl, rfl⟩ := lift1_ok e
  have q1 := (view1_ok hH r1 e1).dp hH
  unfold absP at e3
  split at e3
  · cases e3
    have := Dq.int_inv q1
    subst this
    exact call_abs pins s σ H _ us Q I rv ⟨_, rfl, fin_here (κ := kxOf X ex) hH (.int _) fin⟩
  · cases e3
theorem c_int : CallR X (.type "int") (rdL (kxOf X ex) (gL1 (lift1 1 intP))) := by
  intro pins s σ H vs us Q I rv h
  obtain ⟨w, x, v, st, rfl, r1, hH, d, st', e, fin⟩ := gL1_inv h
  obtain ⟨y, r, e1, e3, rfl, rfl⟩ := lift1_ok e
  have q1 := (view1_ok hH r1 e1).dp hH
  unfold intP at e3
  split at e3
  · cases e3
    have := Dq.int_inv q1
    subst this
    exact call_int1 pins s σ H _ us Q I rv (.inl ⟨_, rfl, fin_here (κ := kxOf X ex) hH (.int _) fin⟩)
  · cases e3
    have := Dq.bl_inv q1
    subst this
    exact call_int1 pins s σ H _ us Q I rv (.inr ⟨_, rfl, fin_here (κ := kxOf X ex) hH (.int _) fin⟩)
  · cases e3
/-- max, min of two ints -/
def max2P : PyData → PyData → Option PyData
  | .int i, .int j => some (.int (if j > i then j else i))
  | _, _ => none
def min2P : PyData → PyData → Option PyData
  | .int i, .int j => some (.int (if j < i then j else i))
  | _, _ => none
theorem c_max2 (hc : X.calm = true) : CallR X (.builtin "max") (rdL (kxOf X ex) (gL2 (lift2 1 max2P))) := by
  intro pins s σ H vs us Q I rv h
  obtain ⟨w, x, y, v, u, st, rfl, r1, r2, hH, d, st', e, fin⟩ := gL2_inv h
  obtain ⟨a, b, r, e1, e2, e3, rfl, rfl⟩ := lift2_ok e
  have q1 := (view1_ok hH r1 e1).dp hH
  have q2 := (view1_ok hH r2 e2).dp hH
  unfold max2P at e3
  split at e3
  · cases e3
    have z1 := Dq.int_inv q1
    have z2 := Dq.int_inv q2
    subst z1 z2
    exact call_max2 hc pins s σ H _ us Q I rv ⟨_, _, rfl, fin_here (κ := kxOf X ex) hH (.int _) fin⟩
  · cases e3
theorem c_min2 (hc : X.calm = true) : CallR X (.builtin "min") (rdL (kxOf X ex) (gL2 (lift2 1 min2P))) := by
  intro pins s σ H vs us Q I rv h
  obtain ⟨w, x, y, v, u, st, rfl, r1, r2, hH, d, st', e, fin⟩ := gL2_inv h
  obtain ⟨a, b, r, e1, e2, e3, rfl, rfl⟩ := lift2_ok e
  have q1 := (view1_ok hH r1 e1).dp hH
  have q2 := (view1_ok hH r2 e2).dp hH
  unfold min2P at e3
  split at e3
  · cases e3
    have z1 := Dq.int_inv q1
    have z2 := Dq.int_inv q2
    subst z1 z2
    exact call_min2 hc pins s σ H _ us Q I rv ⟨_, _, rfl, fin_here (κ := kxOf X ex) hH (.int _) fin⟩
  · cases e3
/-- all, any of bools -/
def boolsOf : List PyData → Option (List Bool)
  | [] => some []
  | .bool b :: r => (boolsOf r).map (b :: ·)
  | _ :: _ => none
theorem boolsOf_eq : ∀ {xs : List PyData} {bs : List Bool}, boolsOf xs = some bs → xs = bs.map .bool
  | [], bs, h => by
    have : ([] : List Bool) = bs := Option.some.inj h
    subst this; rfl
  | x :: r, bs, h => by
    cases x with
    | bool b =>
      have h' : (boolsOf r).map (b :: ·) = some bs := h
      cases q : boolsOf r with
      | none => rw [q] at h'; cases h'
      | some cs =>
        rw [q] at h'
        have e : b :: cs = bs := Option.some.inj h'
        subst e
        rw [boolsOf_eq q]; rfl
    | _ => cases h
theorem boolsOf_map (bs : List Bool) : boolsOf (bs.map .bool) = some bs := by
  induction bs with
  | nil => rfl
  | cons b r ih => show (boolsOf (r.map .bool)).map (b :: ·) = _; rw [ih]; rfl
def allP : PyData → Option PyData
  | .list xs => (boolsOf xs).map fun bs => .bool (bs.all id)
  | _ => none
def anyP : PyData → Option PyData
  | .list xs => (boolsOf xs).map fun bs => .bool (bs.any id)
  | _ => none
theorem c_all (hc : X.calm = true) : CallR X (.builtin "all") (rdL (kxOf X ex) (gL1 (lift1 1 allP))) := by
  intro pins s σ H vs us Q I rv h
  obtain ⟨w, x, v, st, rfl, r1, hH, d, st', e, fin⟩ := gL1_inv h
  obtain ⟨y, r, e1, e3, rfl, rfl⟩ := lift1_ok e
  have q1 := view1_ok hH r1 e1
  unfold allP at e3
  split at e3
  · rename_i xs
    cases q : boolsOf xs with
    | none => rw [q] at e3; cases e3
    | some bs =>
      rw [q] at e3
      cases e3
      obtain ⟨b, vs, rfl, s1, a1⟩ := q1
      rw [boolsOf_eq q] at a1
      rw [Dq.bools a1] at s1
      exact cr_all hc pins s σ H _ us Q I rv ⟨b, bs, rfl, s1, fin_here (κ := kxOf X ex) hH (.bl _) fin⟩
  · cases e3
theorem c_any (hc : X.calm = true) : CallR X (.builtin "any") (rdL (kxOf X ex) (gL1 (lift1 1 anyP))) := by
  intro pins s σ H vs us Q I rv h
  obtain ⟨w, x, v, st, rfl, r1, hH, d, st', e, fin⟩ := gL1_inv h
  obtain ⟨y, r, e1, e3, rfl, rfl⟩ := lift1_ok e
  have q1 := view1_ok hH r1 e1
  unfold anyP at e3
  split at e3
  · rename_i xs
    cases q : boolsOf xs with
    | none => rw [q] at e3; cases e3
    | some bs =>
      rw [q] at e3
      cases e3
      obtain ⟨b, vs, rfl, s1, a1⟩ := q1
      rw [boolsOf_eq q] at a1
      rw [Dq.bools a1] at s1
      exact cr_any hc pins s σ H _ us Q I rv ⟨b, bs, rfl, s1, fin_here (κ := kxOf X ex) hH (.bl _) fin⟩
  · cases e3
/-- sum of ints -/
def intsOf : List PyData → Option (List Int)
  | [] => some []
  | .int b :: r => (intsOf r).map (b :: ·)
  | _ :: _ => none
theorem intsOf_eq : ∀ {xs : List PyData} {bs : List Int}, intsOf xs = some bs → xs = bs.map .int
  | [], bs, h => by
    have : ([] : List Int) = bs := Option.some.inj h
    subst this; rfl
  | x :: r, bs, h => by
    cases x with
    | int b =>
      have h' : (intsOf r).map (b :: ·) = some bs := h
      cases q : intsOf r with
      | none => rw [q] at h'; cases h'
      | some cs =>
        rw [q] at h'
        have e : b :: cs = bs := Option.some.inj h'
        subst e
        rw [intsOf_eq q]; rfl
    | _ => cases h
theorem intsOf_map (bs : List Int) : intsOf (bs.map .int) = some bs := by
  induction bs with
  | nil => rfl
  | cons b r ih => show (intsOf (r.map .int)).map (b :: ·) = _; rw [ih]; rfl
def sumP : PyData → Option PyData
  | .list xs => (intsOf xs).map fun bs => .int bs.sum
  | .tuple xs => (intsOf xs).map fun bs => .int bs.sum
  | _ => none
theorem c_sum (hc : X.calm = true) : CallR X (.builtin "sum") (rdL (kxOf X ex) (gL1 (lift1 1 sumP))) := by
  intro pins s σ H vs us Q I rv h
  obtain ⟨w, x, v, st, rfl, r1, hH, d, st', e, fin⟩ := gL1_inv h
  obtain ⟨y, r, e1, e3, rfl, rfl⟩ := lift1_ok e
  have q1 := view1_ok hH r1 e1
  unfold sumP at e3
  split at e3
  · rename_i xs
    cases q : intsOf xs with
    | none => rw [q] at e3; cases e3
    | some bs =>
      rw [q] at e3
      cases e3
      obtain ⟨b, vs, rfl, s1, a1⟩ := q1
      rw [intsOf_eq q] at a1
      rw [Dq.ints a1] at s1
      exact cr_sum hc pins s σ H _ us Q I rv ⟨b, bs, rfl, s1, fin_here (κ := kxOf X ex) hH (.int _) fin⟩
  · rename_i xs
    cases q : intsOf xs with
    | none => rw [q] at e3; cases e3
    | some bs =>
      rw [q] at e3
      cases e3
      have q1' : Dq X.K w.W v (.tuple xs) := q1
      obtain ⟨b, vs, rfl, s1, a1⟩ := Dq.tup_inv q1'
      rw [intsOf_eq q] at a1
      have s2 := sqT_mono (fun _ _ e => hH.wd e) s1
      rw [Dq.ints a1] at s2
      obtain ⟨its, rv2, ht, hz⟩ := I.tuple s2
      rw [Vals.ref1 rv]
      have hi := rv2.ints
      obtain ⟨xs2, hx⟩ := hi.allInts.items
      have hn : numsOf its.toArray.toList = bs := by rw [show its.toArray.toList = its from rfl, hi.numsOf]
      have hl : s.heap.IsTuple b its.toArray := ht
      rw [hx] at hl hn
      rw [nums_intItems] at hn
      refine PySem.W.ktm_sumG (I.ok.hd hc) hl fun h' tk t' hk => ?_
      rw [preSum_eq, List.take_of_length_le (by simp), hn]
      exact ⟨.int _, H, I.kept (t' := tk) hk, ⟨_, rfl⟩, fin_here (κ := kxOf X ex) hH (.int _) fin⟩
  · cases e3
/-- tuple(xs), list(xs) -/
def tupP : PyData → Option PyData
  | .list xs => some (.tuple xs)
  | .tuple xs => some (.tuple xs)
  | _ => none
theorem c_tuple : CallR X (.type "tuple") (rdL (kxOf X ex) (gL1 (lift1 1 tupP))) := by
  intro pins s σ H vs us Q I rv h
  obtain ⟨w, x, v, st, rfl, r1, hH, d, st', e, fin⟩ := gL1_inv h
  obtain ⟨y, r, e1, e3, rfl, rfl⟩ := lift1_ok e
  have q1 := view1_ok hH r1 e1
  unfold tupP at e3
  split at e3
  · rename_i xs
    cases e3
    obtain ⟨b, vs, rfl, s1, a1⟩ := q1
    exact call_tuple_of pins s σ H _ us Q I rv ⟨b, vs, rfl, .inl ⟨s1, fun l nl => fin_tup (κ := kxOf X ex) hH nl a1 fin⟩⟩
  · rename_i xs
    cases e3
    have q1' : Dq X.K w.W v (.tuple xs) := q1
    obtain ⟨b, vs, rfl, s1, a1⟩ := Dq.tup_inv q1'
    exact call_tuple_of pins s σ H _ us Q I rv ⟨b, vs, rfl, .inr ⟨sqT_mono (fun _ _ e => hH.wd e) s1, fin_here (κ := kxOf X ex) hH q1' fin⟩⟩
  · cases e3
def lstP : PyData → Option PyData
  | .list xs => some (.list xs)
  | .tuple xs => some (.list xs)
  | _ => none
theorem c_list : CallR X (.type "list") (rdL (kxOf X ex) (gL1 (lift1 1 lstP))) := by
  intro pins s σ H vs us Q I rv h
  obtain ⟨w, x, v, st, rfl, r1, hH, d, st', e, fin⟩ := gL1_inv h
  obtain ⟨y, r, e1, e3, rfl, rfl⟩ := lift1_ok e
  have q1 := view1_ok hH r1 e1
  unfold lstP at e3
  split at e3
  · rename_i xs
    cases e3
    obtain ⟨b, vs, rfl, s1, a1⟩ := q1
    exact call_list_of pins s σ H _ us Q I rv ⟨b, vs, rfl, .inl s1, fun l nl => fin_lst (κ := kxOf X ex) hH nl a1 fin⟩
  · rename_i xs
    cases e3
    have q1' : Dq X.K w.W v (.tuple xs) := q1
    obtain ⟨b, vs, rfl, s1, a1⟩ := Dq.tup_inv q1'
    exact call_list_of pins s σ H _ us Q I rv ⟨b, vs, rfl, .inr (sqT_mono (fun _ _ e => hH.wd e) s1), fun l nl => fin_lst (κ := kxOf X ex) hH nl a1 fin⟩
  · cases e3
/-- list(xs), a mutable one -/
def lstM : Fn1 := fun d st => match view 1 d st with
  | some (.list xs) => some (.loc st.length, st ++ [.lst (xs.map D.p)])
  | some (.tuple xs) => some (.loc st.length, st ++ [.lst (xs.map D.p)])
  | _ => none
theorem wf_pure {xs : List PyData} {n : Nat} : Wf1 n (.lst (xs.map D.p)) := fun j m => by
  obtain ⟨x, _, e⟩ := List.mem_map.mp m
  cases e
theorem c_listM : CallR X (.type "list") (rdL (kxOf X ex) (gL1 lstM)) := by
  intro pins s σ H vs us Q I rv h
  obtain ⟨w, x, v, st, rfl, r1, hH, d, st', e, fin⟩ := gL1_inv h
  unfold lstM at e
  split at e
  · rename_i xs q
    cases e
    obtain ⟨b, vs, rfl, s1, a1⟩ := view1_ok hH r1 q
    exact call_list_of pins s σ H _ us Q I rv ⟨b, vs, rfl, .inl s1, fun l nl => fin_mut (κ := kxOf X ex) hH nl (RelL.of a1) wf_pure fin⟩
  · rename_i xs q
    cases e
    have q1' : Dq X.K w.W v (.tuple xs) := view1_ok hH r1 q
    obtain ⟨b, vs, rfl, s1, a1⟩ := Dq.tup_inv q1'
    exact call_list_of pins s σ H _ us Q I rv ⟨b, vs, rfl, .inr (sqT_mono (fun _ _ e => hH.wd e) s1), fun l nl => fin_mut (κ := kxOf X ex) hH nl (RelL.of a1) wf_pure fin⟩
  · cases e
/-! max, min of a list or a tuple of alike data -/
mutual
theorem nm_plain : ∀ {x : PyData}, x.plain = true → nm x = x
  | .none, _ => rfl
  | .bool _, _ => rfl
  | .int _, _ => rfl
  | .str _, _ => rfl
  | .list xs, h => by
    rw [nm, nmA_plain (plain_list h)]
  | .tuple xs, h => by
    rw [nm, nmA_plain (plain_tuple h)]
  | .dict _, h => by cases h
theorem nmA_plain : ∀ {xs : List PyData}, PyData.plainAll xs = true → nmA xs = xs
  | [], _ => rfl
  | x :: xs, h => by
    rw [PyData.plainAll, Bool.and_eq_true] at h
    rw [nmA, nm_plain h.1, nmA_plain h.2]
end
def alikeB (xs : List PyData) : Bool := PyData.plainAll xs && xs.all fun x => notNone x && xs.all fun y => PySem.W.alike x y
theorem alikeB_ok {xs : List PyData} (h : alikeB xs = true) : PySem.W.AlikeAll xs := by
  unfold alikeB at h
  rw [Bool.and_eq_true] at h
  replace h := h.2
  rw [List.all_eq_true] at h
  refine ⟨fun x hx y hy => ?_, fun x hx => ?_⟩
  · have := h x hx
    rw [Bool.and_eq_true] at this
    exact List.all_eq_true.mp this.2 y hy
  · have := h x hx
    rw [Bool.and_eq_true] at this
    exact notNone_ne this.1
def bestP (mx : Bool) (xs : List PyData) : Option PyData := match xs with
  | [] => none
  | x :: r => if alikeB (x :: r) = true ∧ PyData.depthAll (x :: r) ≤ 60 then some (if mx = true then PySem.W.maxD x r else PySem.W.minD x r) else none
def best1 (mx : Bool) : PyData → Option PyData
  | .list xs => bestP mx xs
  | .tuple xs => bestP mx xs
  | _ => none
theorem pick {K : PySem.W.Frag} {w : Wd} {h h' : Heap} {vs : List V} {us : List Value} {xs : List PyData} {i : Nat} {v : Value} {z : PyData} {bs : List Addr} (rv : Vals vs us) (a : DqAll K w.W vs xs)
    (hx : PyData.plainAll xs = true) (hr : ∀ (d : PyData) (x : V) (u : Value), Dq K w.W x d → RelV x u → ∃ as, Reads h' u (nm d) as) (hv : us[i]? = some v) (r : Reads h' v z bs) : ∃ x, RelV x v ∧ Dq K w.W x z := by
  have hi : i < vs.length := by rw [rv.length]; exact (List.getElem?_eq_some_iff.mp hv).1
  have e1 : vs[i]? = some vs[i] := by simp [hi]
  obtain ⟨u, e2, r2⟩ := rv.get e1
  rw [hv] at e2; cases e2
  have hl : i < xs.length := by rw [← Fw.DqAll.length a]; exact hi
  obtain ⟨y, e3, d3⟩ := DqAll.get a (show xs[i]? = some xs[i] by simp [hl])
  rw [e1] at e3; cases e3
  obtain ⟨as, r3⟩ := hr _ _ _ d3 r2
  have e4 := SeqAt.plain_unique _ _ _ _ _ (Dp.plain (Dq.dp _ _ d3)) r3 r
  rw [nm_plain (PySem.W.plain_mem hx (List.getElem_mem hl))] at e4
  rw [e4] at d3
  exact ⟨_, r2, d3⟩
theorem c_best (hc : X.calm = true) (hu : X.A.units + 64 < cLine) (mx : Bool) : CallR X (.builtin (if mx = true then "max" else "min")) (rdL (kxOf X ex) (gL1 (lift1 1 (best1 mx)))) := by
  intro pins s σ H vs us Q I rv h
  obtain ⟨w, x, v, st, rfl, r1, hH, d, st', e, fin⟩ := gL1_inv h
  obtain ⟨y, r, e1, e3, rfl, rfl⟩ := lift1_ok e
  have q1 := view1_ok hH r1 e1
  have hr : ∀ (h' : Heap) (k : ∀ b o, s.heap.get? b = some o → h'.get? b = some o) (d : PyData) (x : V) (u : Value), Dq X.K w.W x d → RelV x u → ∃ as, Reads h' u (nm d) as := fun h' k d x u dx ru => by
    obtain ⟨as, r⟩ := Dp.reads I _ x u (Dq.dp _ _ (hH.dp dx)) ru
    exact ⟨as, PySem.W.reads_keeps k r⟩
  have core : ∀ (xs : List PyData) (b : Addr) (vs : List V) (its : List Value), bestP mx xs = some r → DqAll X.K w.W vs xs → Vals vs its → (s.heap.IsList b its.toArray ∨ s.heap.IsTuple b its.toArray) → v = .ref b →
      wpAny (model X.prog X.w) X.A (call (.builtin (if mx = true then "max" else "min")) us) (EP X pins σ Q) X.xe s := fun xs b vs its e3 a1 rv2 hl ev => by
    subst ev
    rw [Vals.ref1 rv]
    cases xs with
    | nil => cases e3
    | cons z zs =>
      unfold bestP at e3
      simp only at e3
      split at e3
      · rename_i hc2
        cases e3
        have hpl : PyData.plainAll (z :: zs) = true := by
          have q := hc2.1
          unfold alikeB at q
          rw [Bool.and_eq_true] at q
          exact q.1
        have a1p := Dq.dpA _ _ (hH.dpA a1)
        rw [nmA_plain hpl] at a1p
        obtain ⟨as, hrA⟩ := Dp.readsAll I (z :: zs) vs its a1p rv2
        have hrA' : ReadsAll s.heap its.toArray.toList (z :: zs) as := hrA
        have al := alikeB_ok hc2.1
        have un : X.A.units + 1 + PyData.depthAll (z :: zs) < cLine := by have := hc2.2; omega
        have fin2 : ∀ (best : PyData) (i : Nat) (v : Value) (h' : Heap) (tk : Nat) (bs : List Addr), its.toArray[i]? = some v → Reads h' v best bs → (∀ b o, s.heap.get? b = some o → h'.get? b = some o) →
            (∀ w' H' v, w.Le w' → HoldK (kxOf X ex) w' st' H' → RelD X.K w' (.p best) v → Q v H') → EP X pins σ Q v { s with heap := h', toks := tk } := fun best i v h' tk bs hv rb k fin => by
          obtain ⟨x, rx, dx⟩ := pick (h := s.heap) rv2 a1 hpl (hr h' k) (by simpa using hv) rb
          exact ⟨x, H, I.kept (t' := tk) k, rx, fin_here (κ := kxOf X ex) hH dx fin⟩
        cases mx with
        | true =>
          rcases hl with hl | hl
          · exact PySem.W.max_list_data (I.ok.hd hc) hl hrA' al un fun i v h' tk bs hv rb k => fin2 _ i v h' tk bs hv rb k fin
          · exact PySem.W.max_tuple_data (I.ok.hd hc) hl hrA' al un fun i v h' tk bs hv rb k => fin2 _ i v h' tk bs hv rb k fin
        | false =>
          rcases hl with hl | hl
          · exact PySem.W.min_list_data (I.ok.hd hc) hl hrA' al un fun i v h' tk bs hv rb k => fin2 _ i v h' tk bs hv rb k fin
          · exact PySem.W.min_tuple_data (I.ok.hd hc) hl hrA' al un fun i v h' tk bs hv rb k => fin2 _ i v h' tk bs hv rb k fin
      · cases e3
  unfold best1 at e3
  split at e3
  · rename_i xs
    obtain ⟨b, vs, rfl, s1, a1⟩ := q1
    obtain ⟨its, rv2, hl, _⟩ := I.list s1
    exact core xs b vs its e3 a1 rv2 (.inl hl.isList) rfl
  · rename_i xs
    have q1' : Dq X.K w.W v (.tuple xs) := q1
    obtain ⟨b, vs, rfl, s1, a1⟩ := Dq.tup_inv q1'
    obtain ⟨its, rv2, ht, _⟩ := I.tuple (sqT_mono (fun _ _ e => hH.wd e) s1)
    exact core xs b vs its e3 a1 rv2 (.inr ht) rfl
  · cases e3
/-- sorted of a list -/
def sortB0 (xs : List PyData) : Bool := (xs.all fun x => xs.all fun y => PySem.W.alike x y) && ((xs.all fun x => match x with
  | .tuple (_ :: _) => true
  | _ => false) || xs.all fun x => match x with
  | .none => false
  | .tuple _ => false
  | _ => true)
theorem sortB0_ok {xs : List PyData} (h : sortB0 xs = true) : PySem.W.AllAlike xs ∧ PySem.W.Sortable xs := by
  unfold sortB0 at h
  rw [Bool.and_eq_true, Bool.or_eq_true] at h
  refine ⟨fun x hx y hy => List.all_eq_true.mp (List.all_eq_true.mp h.1 x hx) y hy, ?_⟩
  rcases h.2 with h2 | h2
  · refine .inl fun d hd => ?_
    have := List.all_eq_true.mp h2 d hd
    cases d with
    | tuple r =>
      cases r with
      | nil => cases this
      | cons a b => exact ⟨a, b, rfl⟩
    | _ => cases this
  · refine .inr fun d hd => ?_
    have := List.all_eq_true.mp h2 d hd
    refine ⟨?_, ?_⟩
    · rintro rfl; cases this
    · rintro r rfl; cases this
def sortB (xs : List PyData) : Bool := sortB0 (xs.map nm)
theorem sortB_ok {xs : List PyData} (h : sortB xs = true) : PySem.W.AllAlike (xs.map nm) ∧ PySem.W.Sortable (xs.map nm) := sortB0_ok h
def sortL (rev : Bool) (xs : List PyData) : List PyData := xs.mergeSort (PySem.W.dataLe rev nm)
def sortP (rev : Bool) : PyData → Option PyData
  | .list xs => if sortB xs = true ∧ PyData.depthAll (nmA xs) ≤ 60 ∧ xs.length ≤ 1000000 then some (.list (sortL rev xs)) else none
  | _ => none
theorem depth_mem : ∀ {xs : List PyData} {x : PyData}, x ∈ xs → x.depth ≤ PyData.depthAll xs
  | y :: ys, x, h => by
    rw [PyData.depthAll]
    rcases List.mem_cons.mp h with rfl | h
    · exact Nat.le_max_left _ _
    · exact Nat.le_trans (depth_mem h) (Nat.le_max_right _ _)
theorem each_of {K : PySem.W.Frag} {W : Hp} : ∀ {ds : List PyData} {vs : List V} {us : List Value}, DqAll K W vs ds → Vals vs us → PySem.W.EachIs (fun u d => ∃ x, RelV x u ∧ Dq K W x d) us ds
  | [], _, _, a, r => by cases a; cases r; exact .nil
  | d :: ds, _, _, a, r => by
    cases a with
    | cons a1 a2 =>
      cases r with
      | cons r1 r2 => exact .cons ⟨_, r1, a1⟩ (each_of a2 r2)
theorem each_back {K : PySem.W.Frag} {W : Hp} : ∀ {us : List Value} {ds : List PyData}, PySem.W.EachIs (fun u d => ∃ x, RelV x u ∧ Dq K W x d) us ds → ∃ vs, Vals vs us ∧ DqAll K W vs ds
  | _, _, .nil => ⟨[], .nil, .nil⟩
  | _, _, .cons ⟨x, r, d⟩ t => by
    obtain ⟨vs, r2, d2⟩ := each_back t
    exact ⟨x :: vs, .cons r r2, .cons d d2⟩
theorem sort_core {pins : List (Addr × Obj)} {s : Shared} {σ : L2.St} {H : Hp} {Q : VK} {w : Wd} {st : Sto} {rev : Bool} {xs : List PyData} {b : Addr} {vs : List V} (I : Inv X pins σ H s) (hu : X.A.units + 64 < cLine) (hH : HoldK (kxOf X ex) w st H)
    (hb : sortB xs = true ∧ PyData.depthAll (nmA xs) ≤ 60 ∧ xs.length ≤ 1000000) (s1 : SqL X.K H b vs) (a1 : DqAll X.K w.W vs xs) (fin : ∀ w' H' v, w.Le w' → HoldK (kxOf X ex) w' st H' → RelD X.K w' (.p (.list (sortL rev xs))) v → Q v H')
    {E : Value → Shared → Prop} {f : Sem Value} (hf : ∀ {its : List Value} (hl : s.heap.IsList b its.toArray) (e : PySem.W.EachIs (fun u d => ∃ x, RelV x u ∧ Dq X.K w.W x d) its xs) (er : PySem.W.EachIs (fun v b => ∃ as, Reads s.heap v (nm b) as) its xs)
      (h : ∀ out, out.length = xs.length → PySem.W.EachIs (fun u d => ∃ x, RelV x u ∧ Dq X.K w.W x d) out (xs.mergeSort (PySem.W.dataLe rev nm)) → (EP X pins σ Q) (.ref (s.heap.objs.size + 1)) { s with heap := sortedAll s.heap its (List.toArray out) }),
      wpAny (model X.prog X.w) X.A f (EP X pins σ Q) E s) : wpAny (model X.prog X.w) X.A f (EP X pins σ Q) E s := by
  obtain ⟨its, rv2, hl, _⟩ := I.list s1
  have e1 := each_of a1 rv2
  refine hf hl.isList e1 (e1.mono fun u d ⟨x, rx, dx⟩ => Dp.reads I _ x u (Dq.dp _ _ (hH.dp dx)) rx) fun out hlen hout => ?_
  obtain ⟨os, ro, ao⟩ := each_back hout
  obtain ⟨ep, he'⟩ := PyProof.Rows.sortedAll_at s.heap its out.toArray
  have hos : os.length ≤ sizeLine := by
    rw [ro.length, hlen]
    exact lim_line hb.2.2
  have hn : H (s.heap.objs.size + 1) = none := I.hok.fresh (Nat.le_succ _)
  exact ⟨.ref _, upd H (s.heap.objs.size + 1) (.lst os), I.laid (t' := s.toks) (fun _ _ => PyProof.Rows.sortedAll_old) (Nat.le_succ _) ⟨hos, out, ep, ro, by simpa using he'⟩, rfl, fin_lst (κ := kxOf X ex) hH hn ao fin⟩
theorem c_sorted (hu : X.A.units + 64 < cLine) : CallR X (.builtin "sorted") (rdL (kxOf X ex) (gL1 (lift1 1 (sortP false)))) := by
  intro pins s σ H vs us Q I rv h
  obtain ⟨w, x, v, st, rfl, r1, hH, d, st', e, fin⟩ := gL1_inv h
  obtain ⟨y, r, e1, e3, rfl, rfl⟩ := lift1_ok e
  have q1 := view1_ok hH r1 e1
  unfold sortP at e3
  split at e3
  · rename_i xs
    split at e3
    · rename_i hb
      cases e3
      obtain ⟨b, vs, rfl, s1, a1⟩ := q1
      rw [Vals.ref1 rv]
      obtain ⟨h1, h2⟩ := sortB_ok hb.1
      exact sort_core I hu hH hb s1 a1 fin fun hl e er h => PySem.W.sorted_data hl e er h1 h2 (lim_line hb.2.2) (fun b hbm => by have := depth_mem (xs := nmA xs) (x := nm b) (by rw [nmA_map]; exact List.mem_map_of_mem hbm); have := hb.2.1; show X.A.units + 2 + (nm b).depth < cLine; omega) h
    · cases e3
  · cases e3
end
end Fw
set_option Elab.async false
set_option linter.all false
set_option maxRecDepth 100000
set_option maxHeartbeats 4000000
namespace Fw
open PySem PySem.Spec PyProof.Rows L2

/-! ## isinstance -/
inductive Cl where
  | int | bool | str | tup | lst
def Cl.nm : Cl → String
  | .int => "int"
  | .bool => "bool"
  | .str => "str"
  | .tup => "tuple"
  | .lst => "list"
def isC (c : Cl) (x : PyData) : Option Bool := match c, x with
  | .int, .int _ => some true
  | .int, .bool _ => some true
  | .bool, .bool _ => some true
  | .str, .str _ => some true
  | .tup, .tuple _ => some true
  | .lst, .list _ => some true
  | _, .dict _ => none
  | _, _ => some false
def tyN : PyData → Option String
  | .none => some "NoneType"
  | .bool _ => some "bool"
  | .int _ => some "int"
  | .str _ => some "str"
  | .tuple _ => some "tuple"
  | .list _ => some "list"
  | .dict _ => none
theorem kit_all (c : Cl) (x : PyData) (t : String) (h : tyN x = some t) : kitB t c.nm = isC c x := by
  cases x with
  | dict _ => cases h
  | none => cases h; cases c <;> (show kitB _ _ = some _; decide +kernel)
  | bool b => cases h; cases c <;> (show kitB _ _ = some _; decide +kernel)
  | int b => cases h; cases c <;> (show kitB _ _ = some _; decide +kernel)
  | str b => cases h; cases c <;> (show kitB _ _ = some _; decide +kernel)
  | tuple b => cases h; cases c <;> (show kitB _ _ = some _; decide +kernel)
  | list b => cases h; cases c <;> (show kitB _ _ = some _; decide +kernel)
theorem tyX_of {K : PySem.W.Frag} {H : Hp} {v : V} {x : PyData} (r : Dp K H v x) : ∃ t, tyN x = some t ∧ TyX K H v (.type t) := by
  cases r with
  | non => exact ⟨_, rfl, .base .non⟩
  | bl b => exact ⟨_, rfl, .base (.bl b)⟩
  | int b => exact ⟨_, rfl, .base (.int b)⟩
  | str b => exact ⟨_, rfl, .base (.str b)⟩
  | lst s _ =>
    refine ⟨_, rfl, ?_⟩
    rcases s with (s | ⟨o, s⟩) | ⟨o, its, n, hk, hc, _⟩
    · exact .base (.lst s)
    · exact .base (.frz s)
    · exact .kList hk hc
  | tup s _ =>
    refine ⟨_, rfl, ?_⟩
    rcases s with (s | ⟨o, s⟩) | ⟨o, its, n, hk, hc, _⟩
    · exact .base (.tup s)
    · exact .fTuple s
    · exact .kTuple hk hc
section
variable {X : Cx} {κ : Kx} {Wx : WX} {σ : L2.St} {H : Hp} {ma mb : Env' → M D} {ms : Env' → M (List D)} {a e : Expr} {es : List Expr} {pos p : Pos} {ex : Nat → Addr}
def isiP (c : Cl) (x : PyData) : Option PyData := (isC c (nm x)).map .bool
theorem r_isi {c : Cl} {y : Str} {p2 : Pos} (hg : Gl X "isinstance") (hm : X.mg "isinstance" = none) (hg2 : Gl X y) (hm2 : X.mg y = none) (hv2 : bootBuiltins y = some (.type c.nm)) (hn2 : y ≠ "__name__") (hd2 : (y == ("__debug__" : Str)) = false) (ha : PE X a (rdE (kxOf X ex) ma Wx))
    (he : starEach [a, .Name y p2] X.env = (false, eval a X.env) :: starEach [.Name y p2] X.env) : PE X (.Call (.Name "isinstance" p) [a, .Name y p2] [] pos) (rdE (kxOf X ex) (m1 ma (lift1 3 (isiP c))) Wx) := by
  have h1 : PE X (.Name y p2) (tC (.ty c.nm)) := pe_bltn hg2 hm2 hv2 rfl hn2 hd2
  refine (pe_callB call_isi hg hm PyProof.Rows.boot_isinstance (pa_cons ha (pa_cons h1 pa_nil) he) (by decide) (by decide) he (by rfl)).wk fun σ H Q h => ?_
  obtain ⟨w0, env0, st0, a0, b0, c0⟩ := rd_m1 h
  refine ⟨w0, env0, st0, a0, b0, c0.imp fun d st' w' H' le hh q v rv => ?_⟩
  obtain ⟨w1, x, st1, r1, hH1, d', st2, e, fin⟩ := q v rv
  obtain ⟨y, r, e1, e3, rfl, rfl⟩ := lift1_ok e
  have q1 := Dq.dp _ _ (view_ok hH1 3 r1 e1)
  unfold isiP at e3
  cases q2 : isC c (nm y) with
  | none => rw [q2] at e3; cases e3
  | some k =>
    rw [q2] at e3
    cases e3
    obtain ⟨t, ht, tx⟩ := tyX_of q1
    exact ⟨v, .ty c.nm, .type t, .type c.nm, k, rfl, .ty _, tx, kit_ty (by rw [kit_all c _ t ht, q2]), fin_here (κ := kxOf X ex) hH1 (.bl k) fin⟩
theorem r_callB {id : String} {x : Str} {g : FnL} (hc : CallR X (.builtin id) (rdL κ g)) (hg : Gl X x) (hm : X.mg x = none) (hv : bootBuiltins x = some (.builtin id)) (ha : PA X (e :: es) (rdA κ ms Wx)) (hn : x ≠ "__name__") (hdb : (x == ("__debug__" : Str)) = false)
    (he : starEach (e :: es) X.env = (false, eval e X.env) :: starEach es X.env) (hpl : (backTo pos (starEach es X.env)).any (·.1) = false) : PE X (.Call (.Name x p) (e :: es) [] pos) (rdE κ (mL ms g) Wx) :=
  (pe_callB hc hg hm hv ha hn hdb he hpl).wk fun σ H Q h => rd_mL h
theorem r_callTy {T : String} {x : Str} {g : FnL} (hc : CallR X (.type T) (rdL κ g)) (hg : Gl X x) (hm : X.mg x = none) (hv : bootBuiltins x = some (.type T)) (ha : PA X (e :: es) (rdA κ ms Wx)) (hn : x ≠ "__name__") (hdb : (x == ("__debug__" : Str)) = false)
    (he : starEach (e :: es) X.env = (false, eval e X.env) :: starEach es X.env) (hpl : (backTo pos (starEach es X.env)).any (·.1) = false) : PE X (.Call (.Name x p) (e :: es) [] pos) (rdE κ (mL ms g) Wx) :=
  (pe_callTy hc hg hm hv ha hn hdb he hpl).wk fun σ H Q h => rd_mL h

/-! ## calls of the text's own defs -/
/-- the promise of a computation -/
def spF (κ : Kx) (np : Nat) (φ : List D → M D) : Sp := fun vs H Q E => vs.length = np ∧ ∃ w ds st, RelL κ.K w ds vs ∧ HoldK κ w st H ∧ match φ ds st with
  | .ok d st' => ∀ w' H' v, w.Le w' → HoldK κ w' st' H' → RelD κ.K w' d v → Q v H'
  | .exc c st' => ∀ w' H', w.Le w' → HoldK κ w' st' H' → E (.ref (κ.ex c)) none H'
  | .bad => False
/-- how a def stands: its object, its arguments' binding -/
structure FnAt (X : Cx) (ex : Nat → Addr) (k : Nat) (x : Str) (ps : List Str) (φ : List D → M D) : Prop where
  at_ : ∃ (f : Addr) (fd : FuncData), X.mg x = some (.ref f) ∧ PySem.W.keepIn X.K (.ref f) = true ∧ Binds X.K fd ps [] ∧ FnOk X.prog X.w X.K X.mg X.base (L2.CX X.prog X.w) k f fd ps (spF (kxOf X ex) ps.length φ)
def mCall (ms : Env' → M (List D)) (φ : List D → M D) : Env' → M D := fun env => bnd (ms env) φ
theorem spF_of {np : Nat} {φ : List D → M D} {w : Wd} {ds : List D} {vs : List V} {st : Sto} {H : Hp} {Q : VK} (hl : ds.length = np) (rl : RelL κ.K w ds vs) (hH : HoldK κ w st H) (hp : PostG κ Wx σ w (φ ds st) (CV κ Q)) : spF κ np φ vs H Q (WE Wx σ) := by
  refine ⟨by rw [← hl, rl.length], w, ds, st, rl, hH, ?_⟩
  cases q : φ ds st with
  | ok d st' =>
    rw [q] at hp
    exact fun w' H' v le hh r => hp w' H' le hh v r
  | exc c st' =>
    rw [q] at hp
    exact fun w' H' le hh => hp w' H' le hh
  | bad => rw [q] at hp; exact hp
/-- the arguments have the right number -/
def sized (n : Nat) (φ : List D → M D) : List D → M D := fun ds => if ds.length = n then φ ds else bad
theorem r_call {k : Nat} {x : Str} {ps : List Str} {φ : List D → M D} (F : FnAt X ex k x ps φ) (tk : Takes X Wx) (hr : Room k X.A) (hg : Gl X x) (ha : PA X (e :: es) (rdA (kxOf X ex) ms Wx)) (hdb : (x == ("__debug__" : Str)) = false)
    (he : starEach (e :: es) X.env = (false, eval e X.env) :: starEach es X.env) (hpl : (backTo pos (starEach es X.env)).any (·.1) = false) : PE X (.Call (.Name x p) (e :: es) [] pos) (rdE (kxOf X ex) (mCall ms (sized ps.length φ)) Wx) := by
  obtain ⟨f, fd, hm, hk, hb, F⟩ := F.at_
  refine (pe_callS F hr hg hm hk hb (fun σ => passAt tk σ) ha hdb he hpl).wk fun σ H Q h => ?_
  obtain ⟨w, env, st, hE, hH, hp⟩ := h
  refine ⟨w, env, st, hE, hH, (PostG.bnd hp).imp fun ds st1 w1 H1 le hH1 hp1 vs rl => ?_⟩
  unfold sized at hp1
  split at hp1
  · rename_i hl
    exact spF_of (κ := kxOf X ex) hl rl hH1 hp1
  · exact hp1.elim
theorem r_call0 {k : Nat} {x : Str} {φ : List D → M D} (F : FnAt X ex k x [] φ) (tk : Takes X Wx) (hr : Room k X.A) (hg : Gl X x) (hdb : (x == ("__debug__" : Str)) = false) : PE X (.Call (.Name x p) [] [] pos) (rdE (kxOf X ex) (mCall aNil (sized 0 φ)) Wx) := by
  obtain ⟨f, fd, hm, hk, hb, F⟩ := F.at_
  refine ⟨fun pins s σ H Q I h => ?_⟩
  obtain ⟨w, env, st, hE, hH, hp⟩ := h
  have hp1 := PostG.ret (C := fun b st1 w1 _ => PostG (kxOf X ex) Wx σ w1 (sized 0 φ b st1) (CV (kxOf X ex) Q)) hH (PostG.bnd hp)
  refine wpAny_Call_Name_kw (ld_glob I hg hm ?_ hdb)
  exact PySem.W.callWith_K0 I.kIn hk (run_fnS (E := WE Wx) (us := []) F hr hb (passAt tk σ) I .nil (spF_of (κ := kxOf X ex) (ds := []) rfl .nil hH hp1))
end

/-! ## what is walked -/
inductive Src where
  | fix (xs : List D)
  | loc (n : Nat)
def cont (s : Src) (st : Sto) : Option (List D) := match s with
  | .fix xs => some xs
  | .loc n => match st[n]? with
    | some (.lst ds) => some ds
    | _ => none
structure Serves (κ : Kx) (w : Wd) (S : Hp) (src : Src) (J : It) : Prop where
  go : ∀ (i : Nat) (w1 : Wd) (st : Sto) (H : Hp) (ds : List D), w.Lc w1 → (∀ b o, S b = some o → w1.T b = some o) → HoldK κ w1 st H → cont src st = some ds → i < ds.length → J.go i H
  stop : ∀ (i : Nat) (w1 : Wd) (st : Sto) (H : Hp) (ds : List D), w.Lc w1 → (∀ b o, S b = some o → w1.T b = some o) → HoldK κ w1 st H → cont src st = some ds → ds.length ≤ i → J.stop i H
  yld : ∀ (i : Nat) (w1 : Wd) (st : Sto) (H H' : Hp) (ds : List D) (d : D) (x : V), w.Lc w1 → (∀ b o, S b = some o → w1.T b = some o) → HoldK κ w1 st H → cont src st = some ds → ds[i]? = some d → J.yld i H x H' → ∃ w2, w1.Le w2 ∧ HoldK κ w2 st H' ∧ RelD κ.K w2 d x
def rdI (κ : Kx) (m : Env' → M Src) (Wx : WX) : TI := fun σ H R => ∃ w env st, RelE κ w env σ ∧ HoldK κ w st H ∧ PostG κ Wx σ w (m env st) fun src st' w' H' => ∀ J, Serves κ w' (fun _ => none) src J → R J H'
section
variable {κ : Kx} {w : Wd} {st : Sto} {H : Hp}
theorem sqL_uniq {X : Cx} {pins : List (Addr × Obj)} {σ : L2.St} {s : Shared} {H : Hp} {a : Addr} {xs ys : List V} (I : Inv X pins σ H s) (h : SqL X.K H a xs) (h' : SqL X.K H a ys) : xs = ys := I.list_inj h h'
theorem get_map_p {xs : List PyData} {i : Nat} {d : D} (h : (xs.map D.p)[i]? = some d) : ∃ x, xs[i]? = some x ∧ d = .p x := by
  rw [List.getElem?_map] at h
  cases q : xs[i]? with
  | none => rw [q] at h; cases h
  | some x => rw [q] at h; cases h; exact ⟨x, rfl, rfl⟩
theorem serves_list {S : Hp} {a : Addr} {vs : List V} {xs : List PyData} (s : SqL κ.K w.W a vs) (r : DqAll κ.K w.W vs xs) : Serves κ w S (.fix (xs.map D.p)) (Itl κ.K a) where
  go := fun i w1 st H ds le _ hH hc hi => by
    cases hc
    have s1 := sqL_mono (fun _ _ e => hH.wd (le.W _ _ e)) s
    have hi' : i < vs.length := by rw [Fw.DqAll.length r]; simpa using hi
    exact ⟨vs, vs[i], s1, by simp [hi']⟩
  stop := fun i w1 st H ds le _ hH hc hi => by
    cases hc
    exact ⟨vs, sqL_mono (fun _ _ e => hH.wd (le.W _ _ e)) s, by rw [Fw.DqAll.length r]; simpa using hi⟩
  yld := fun i w1 st H H' ds d x le _ hH hc hd hy => by
    cases hc
    obtain ⟨rfl, f⟩ := hy
    obtain ⟨y, h1, rfl⟩ := get_map_p hd
    obtain ⟨v, h2, h3⟩ := DqAll.get r h1
    have := f vs (sqL_mono (fun _ _ e => hH.wd (le.W _ _ e)) s)
    rw [h2] at this; cases this
    exact ⟨w1, Wd.Le.refl _, hH, Dq.mono le.W _ _ h3⟩
theorem serves_tup {S : Hp} {a : Addr} {vs : List V} {xs : List PyData} (s : SqT κ.K w.W a vs) (r : DqAll κ.K w.W vs xs) : Serves κ w S (.fix (xs.map D.p)) (Itt κ.K a) where
  go := fun i w1 st H ds le _ hH hc hi => by
    cases hc
    have s1 := sqT_mono (fun _ _ e => hH.wd (le.W _ _ e)) s
    have hi' : i < vs.length := by rw [Fw.DqAll.length r]; simpa using hi
    exact ⟨vs, vs[i], s1, by simp [hi']⟩
  stop := fun i w1 st H ds le _ hH hc hi => by
    cases hc
    exact ⟨vs, sqT_mono (fun _ _ e => hH.wd (le.W _ _ e)) s, by rw [Fw.DqAll.length r]; simpa using hi⟩
  yld := fun i w1 st H H' ds d x le _ hH hc hd hy => by
    cases hc
    obtain ⟨rfl, f⟩ := hy
    obtain ⟨y, h1, rfl⟩ := get_map_p hd
    obtain ⟨v, h2, h3⟩ := DqAll.get r h1
    have := f vs (sqT_mono (fun _ _ e => hH.wd (le.W _ _ e)) s)
    rw [h2] at this; cases this
    exact ⟨w1, Wd.Le.refl _, hH, Dq.mono le.W _ _ h3⟩
theorem serves_loc {S : Hp} {n : Nat} {a : Addr} (ha : w.L[n]? = some a) : Serves κ w S (.loc n) (Itl κ.K a) where
  go := fun i w1 st H ds le _ hH hc hi => by
    unfold cont at hc
    simp only at hc
    split at hc
    · rename_i ds' q
      cases hc
      obtain ⟨o, ho, vs, rfl, rl⟩ := hH.obs n a _ (le.get ha) q
      have hi' : i < vs.length := by rw [← rl.length]; exact hi
      exact ⟨vs, vs[i], SqL.of ho, by simp [hi']⟩
    · cases hc
  stop := fun i w1 st H ds le _ hH hc hi => by
    unfold cont at hc
    simp only at hc
    split at hc
    · rename_i ds' q
      cases hc
      obtain ⟨o, ho, vs, rfl, rl⟩ := hH.obs n a _ (le.get ha) q
      exact ⟨vs, SqL.of ho, by rw [← rl.length]; exact hi⟩
    · cases hc
  yld := fun i w1 st H H' ds d x le _ hH hc hd hy => by
    unfold cont at hc
    simp only at hc
    split at hc
    · rename_i ds' q
      cases hc
      obtain ⟨rfl, f⟩ := hy
      obtain ⟨o, ho, vs, rfl, rl⟩ := hH.obs n a _ (le.get ha) q
      obtain ⟨v, h2, h3⟩ := rl.get hd
      have := f vs (SqL.of ho)
      rw [h2] at this; cases this
      exact ⟨w1, Wd.Le.refl _, hH, h3⟩
    · cases hc
theorem serves_range {S : Hp} {lo : Int} {n : Nat} : Serves κ w S (.fix ((List.range n).map fun (i : Nat) => D.p (.int (lo + (i : Nat))))) (Itr lo n) where
  go := fun i w1 st H ds le _ hH hc hi => by
    cases hc
    show i < n
    simpa using hi
  stop := fun i w1 st H ds le _ hH hc hi => by
    cases hc
    show n ≤ i
    simpa using hi
  yld := fun i w1 st H H' ds d x le _ hH hc hd hy => by
    cases hc
    obtain ⟨rfl, rfl⟩ := hy
    rw [List.getElem?_map] at hd
    cases q : (List.range n)[i]? with
    | none => rw [q] at hd; cases hd
    | some j =>
      rw [q] at hd
      cases hd
      have hj := List.getElem?_eq_some_iff.mp q
      have : j = i := by simpa using hj.2.symm
      subst this
      exact ⟨w1, Wd.Le.refl _, hH, .int _⟩
end
section
variable {X : Cx} {κ : Kx} {Wx : WX} {σ : L2.St} {H : Hp} {ma mb : Env' → M D} {ms : Env' → M (List D)} {a e tg : Expr} {es : List Expr} {pos p : Pos} {ex : Nat → Addr}
/-- a list, a tuple, a mutable list -/
def srcOf (d : D) : Option Src := match d with
  | .p x => (match x with
    | .list xs => some (.fix (xs.map D.p))
    | y => (match opn y with
      | some xs => some (.fix (xs.map D.p))
      | none => none))
  | .loc n => some (.loc n)
def iSeq (m : Env' → M D) : Env' → M Src := fun env => bnd (m env) fun d st => match srcOf d with
  | some (.loc n) => (match cont (.loc n) st with
    | some _ => .ok (.loc n) st
    | none => .bad)
  | some s => .ok s st
  | none => .bad
theorem r_iseq (ha : PE X a (rdE (kxOf X ex) ma Wx)) : PI X tg a (rdI (kxOf X ex) (iSeq ma) Wx) := by
  refine ⟨fun pins s σ H R I h => ?_⟩
  obtain ⟨w, env, st, hE, hH, hp⟩ := h
  have hs := rd_one (Wx := Wx) (ma := ma) hE hH hp
  refine thn (ha.run pins s σ H _ I hs) fun v s1 ⟨x, H1, I1, r1, q1⟩ => ?_
  obtain ⟨w1, d, st1, le, rd, hE1, hH1, hp1⟩ := q1
  have goL : ∀ (b : Addr) (vs : List V) (src : Src), x = .ref b → SqL X.K H1 b vs → Serves (kxOf X ex) w1 (fun _ => none) src (Itl X.K b) → (∀ J, Serves (kxOf X ex) w1 (fun _ => none) src J → R J H1) → wpAny (model X.prog X.w) X.A (pyIter v) (PIE X pins σ tg R) X.xe s1 := fun b vs src ex' hq sv hR => by
    subst ex'
    cases r1
    obtain ⟨its, rv, p, hz⟩ := I1.list hq
    refine wpAny_pyIter_list p.isList ?_
    refine ⟨s1.heap.objs.size, [s1.heap.objs.size], _, _, H1, rfl, I1.kept (t' := s1.toks) fun b o e => Heap.get?_push_of_some _ e, turn_list b _, ⟨_, Heap.get?_push_size _ rfl, rfl, rfl⟩, fun b hb => ?_, hR _ sv⟩
    have e : b = s1.heap.objs.size := by simpa using hb
    subst e
    exact I1.fpOk (Nat.le_refl _) (I1.hok.fresh (Nat.le_refl _))
  have goT : ∀ (b : Addr) (vs : List V) (src : Src), x = .ref b → SqT X.K H1 b vs → Serves (kxOf X ex) w1 (fun _ => none) src (Itt X.K b) → (∀ J, Serves (kxOf X ex) w1 (fun _ => none) src J → R J H1) → wpAny (model X.prog X.w) X.A (pyIter v) (PIE X pins σ tg R) X.xe s1 := fun b vs src ex' hq sv hR => by
    subst ex'
    cases r1
    obtain ⟨its, rv, p, hz⟩ := I1.tuple hq
    refine wpAny_pyIter_tuple (show s1.heap.IsTuple b its.toArray from p) ?_
    refine ⟨s1.heap.objs.size, [s1.heap.objs.size], _, _, H1, rfl, I1.kept (t' := s1.toks) fun b o e => Heap.get?_push_of_some _ e, turn_tuple b _, ⟨_, Heap.get?_push_size _ rfl, rfl, rfl⟩, fun b hb => ?_, hR _ sv⟩
    have e : b = s1.heap.objs.size := by simpa using hb
    subst e
    exact I1.fpOk (Nat.le_refl _) (I1.hok.fresh (Nat.le_refl _))
  cases d with
  | p y =>
    cases y with
    | list xs =>
      have rd' : Dq X.K w1.W x (.list xs) := rd
      obtain ⟨b, vs, e1, s1', a1⟩ := Dq.lst_inv rd'
      exact goL b vs _ e1 (sqL_mono (fun _ _ e => hH1.wd e) s1') (serves_list (κ := kxOf X ex) s1' a1) (hp1 w1 _ (Wd.Le.refl _) hH1)
    | tuple xs =>
      have rd' : Dq X.K w1.W x (.tuple xs) := rd
      obtain ⟨b, vs, e1, s1', a1⟩ := Dq.tup_inv rd'
      exact goT b vs _ e1 (sqT_mono (fun _ _ e => hH1.wd e) s1') (serves_tup (κ := kxOf X ex) s1' a1) (hp1 w1 _ (Wd.Le.refl _) hH1)
    | dict kvs =>
      have rd' : Dq X.K w1.W x (.dict kvs) := rd
      cases ho : opn (.dict kvs) with
      | none =>
        have hs : srcOf (.p (.dict kvs)) = none := by
          show (match opn (.dict kvs) with
            | some xs => some (Src.fix (xs.map D.p))
            | none => none) = none
          rw [ho]
        rw [hs] at hp1
        exact hp1.elim
      | some xs =>
        have hs : srcOf (.p (.dict kvs)) = some (.fix (xs.map D.p)) := by
          show (match opn (.dict kvs) with
            | some xs => some (Src.fix (xs.map D.p))
            | none => none) = _
          rw [ho]
        rw [hs] at hp1
        obtain ⟨b, vs, e1, s1', a1⟩ := Dq.opn_inv ho rd'
        exact goT b vs _ e1 (sqT_mono (fun _ _ e => hH1.wd e) s1') (serves_tup (κ := kxOf X ex) s1' a1) (hp1 w1 _ (Wd.Le.refl _) hH1)
    | _ => exact hp1.elim
  | loc n =>
    obtain ⟨b, e1, hb⟩ := rd
    have hp2 : PostG (kxOf X ex) Wx σ w1 (match cont (.loc n) st1 with
      | some _ => Fw.R.ok (Src.loc n) st1
      | none => Fw.R.bad) (fun src st' w' H' => ∀ J, Serves (kxOf X ex) w' (fun _ => none) src J → R J H') := hp1
    cases q : cont (.loc n) st1 with
    | none => rw [q] at hp2; exact hp2.elim
    | some ds =>
      rw [q] at hp2
      unfold cont at q
      simp only at q
      split at q
      · rename_i ds' q'
        obtain ⟨o, ho, vs, rfl, rl⟩ := hH1.obs n b _ hb q'
        exact goL b vs _ e1 (SqL.of ho) (serves_loc (κ := kxOf X ex) hb) (hp2 w1 _ (Wd.Le.refl _) hH1)
      · cases q
/-- ranges -/
def rngL (lo : Int) (n : Nat) : List D := (List.range n).map fun (i : Nat) => D.p (.int (lo + (i : Nat)))
def smallI (i : Int) : Bool := decide (-(2 ^ 62) ≤ i) && decide (i < 2 ^ 62)
def rng1 (ds : List D) : Option Src := match ds with
  | [.p (.int j)] => if smallI j = true then some (.fix (rngL 0 j.toNat)) else none
  | _ => none
def rng2 (ds : List D) : Option Src := match ds with
  | [.p (.int i), .p (.int j)] => if smallI i = true ∧ smallI j = true then some (.fix (rngL i (j - i).toNat)) else none
  | _ => none
def iArgs (ms : Env' → M (List D)) (f : List D → Option Src) : Env' → M Src := fun env => bnd (ms env) fun ds => opt (f ds)
theorem smallI_ok {i : Int} (h : smallI i = true) : -(2 ^ 62) ≤ i ∧ i < 2 ^ 62 := by
  unfold smallI at h
  rw [Bool.and_eq_true] at h
  exact ⟨of_decide_eq_true h.1, of_decide_eq_true h.2⟩
theorem r_rng1 (hg : Gl X "range") (hm : X.mg "range" = none) (ha : PA X [a] (rdA (kxOf X ex) ms Wx)) (hs : starEach [a] X.env = [(false, eval a X.env)]) : PI X tg (.Call (.Name "range" p) [a] [] pos) (rdI (kxOf X ex) (iArgs ms rng1) Wx) := (pi_range1 hg hm ha hs).wk fun σ H Q h => by
  obtain ⟨w, env, st, hE, hH, hp⟩ := h
  refine ⟨w, env, st, hE, hH, (PostG.bnd hp).imp fun ds st1 w1 H1 le hH1 hp1 vs rl => ?_⟩
  unfold opt rng1 at hp1
  split at hp1
  · rename_i sr q
    split at q
    · rename_i j
      split at q
      · rename_i hj
        cases q
        cases rl with
        | cons r1 r2 =>
          cases r2
          have r1' : Dq X.K w1.W _ (.int j) := r1
          have := Dq.int_inv r1'
          subst this
          obtain ⟨h1, h2⟩ := smallI_ok hj
          exact ⟨j, rfl, h1, h2, hp1 w1 _ (Wd.Le.refl _) hH1 _ serves_range⟩
      · cases q
    · cases q
  · exact hp1.elim
theorem r_rng2 {b : Expr} (hg : Gl X "range") (hm : X.mg "range" = none) (ha : PA X [a, b] (rdA (kxOf X ex) ms Wx)) (hs : starEach [a, b] X.env = [(false, eval a X.env), (false, eval b X.env)]) (hs2 : starEach [b] X.env = [(false, eval b X.env)]) : PI X tg (.Call (.Name "range" p) [a, b] [] pos) (rdI (kxOf X ex) (iArgs ms rng2) Wx) := (pi_range2 hg hm ha hs hs2).wk fun σ H Q h => by
  obtain ⟨w, env, st, hE, hH, hp⟩ := h
  refine ⟨w, env, st, hE, hH, (PostG.bnd hp).imp fun ds st1 w1 H1 le hH1 hp1 vs rl => ?_⟩
  unfold opt rng2 at hp1
  split at hp1
  · rename_i sr q
    split at q
    · rename_i i j
      split at q
      · rename_i hj
        cases q
        cases rl with
        | cons r1 r2 =>
          cases r2 with
          | cons r2 r3 =>
            cases r3
            have r1' : Dq X.K w1.W _ (.int i) := r1
            have r2' : Dq X.K w1.W _ (.int j) := r2
            have z1 := Dq.int_inv r1'
            have z2 := Dq.int_inv r2'
            subst z1 z2
            obtain ⟨h1, h2⟩ := smallI_ok hj.1
            obtain ⟨h3, h4⟩ := smallI_ok hj.2
            exact ⟨i, j, rfl, ⟨h1, h2, h3, h4⟩, hp1 w1 _ (Wd.Le.refl _) hH1 _ serves_range⟩
      · cases q
    · cases q
  · exact hp1.elim
/-- zip of two lists, of two tuples -/
def pairs (xs ys : List PyData) : List D := (xs.zip ys).map fun q => .p (.tuple [q.1, q.2])
def zip2 (ds : List D) : Option Src := match ds with
  | [.p (.list xs), .p (.list ys)] => some (.fix (pairs xs ys))
  | [.p (.tuple xs), .p (.tuple ys)] => some (.fix (pairs xs ys))
  | _ => none
theorem pairs_len (xs ys : List PyData) : (pairs xs ys).length = min xs.length ys.length := by simp [pairs]
theorem pairs_get {xs ys : List PyData} {i : Nat} {d : D} (h : (pairs xs ys)[i]? = some d) : ∃ x y, xs[i]? = some x ∧ ys[i]? = some y ∧ d = .p (.tuple [x, y]) := by
  unfold pairs at h
  rw [List.getElem?_map] at h
  cases q : (xs.zip ys)[i]? with
  | none => rw [q] at h; cases h
  | some z =>
    rw [q] at h
    cases h
    obtain ⟨x, y⟩ := z
    rw [List.getElem?_zip_eq_some] at q
    exact ⟨x, y, q.1, q.2, rfl⟩
theorem pair_new {κ : Kx} {w : Wd} {st : Sto} {H : Hp} {T : Addr} {v u : V} {x y : PyData} (hH : HoldK κ w st H) (nT : H T = none) (r1 : Dq κ.K w.W v x) (r2 : Dq κ.K w.W u y) : ∃ w2, w.Le w2 ∧ HoldK κ w2 st (upd H T (.tup [v, u])) ∧ RelD κ.K w2 (.p (.tuple [x, y])) (.ref T) := by
  have n2 : w.W T = none := hH.free nT
  have le := Wd.le_imm (w := w) (p := T) (o := .tup [v, u]) n2
  exact ⟨_, le, Hold.imm_new hH nT trivial, .tup (SqT.of upd_same) (Dq.monoA (fun a o e => le.W a o e) _ _ (.cons r1 (.cons r2 .nil)))⟩
theorem serves_zipL {S : Hp} {κ : Kx} {w : Wd} {a b : Addr} {vs us : List V} {xs ys : List PyData} (s : SqL κ.K w.W a vs) (r : DqAll κ.K w.W vs xs) (s' : SqL κ.K w.W b us) (r' : DqAll κ.K w.W us ys) : Serves κ w S (.fix (pairs xs ys)) (Itz κ.K a b) where
  go := fun i w1 st H ds le _ hH hc hi => by
    cases hc
    rw [pairs_len] at hi
    have h1 : i < vs.length := by rw [Fw.DqAll.length r]; omega
    have h2 : i < us.length := by rw [Fw.DqAll.length r']; omega
    exact ⟨vs, us, vs[i], us[i], sqL_mono (fun _ _ e => hH.wd (le.W _ _ e)) s, sqL_mono (fun _ _ e => hH.wd (le.W _ _ e)) s', by simp [h1], by simp [h2]⟩
  stop := fun i w1 st H ds le _ hH hc hi => by
    cases hc
    rw [pairs_len] at hi
    exact ⟨vs, us, sqL_mono (fun _ _ e => hH.wd (le.W _ _ e)) s, sqL_mono (fun _ _ e => hH.wd (le.W _ _ e)) s', by rw [Fw.DqAll.length r, Fw.DqAll.length r']; omega⟩
  yld := fun i w1 st H H' ds d x le _ hH hc hd hy => by
    cases hc
    obtain ⟨T, v, u, rfl, nT, rfl, f1, f2⟩ := hy
    obtain ⟨y, z, h1, h2, rfl⟩ := pairs_get hd
    obtain ⟨v', g1, g2⟩ := DqAll.get r h1
    obtain ⟨u', g3, g4⟩ := DqAll.get r' h2
    have e1 := f1 vs (sqL_mono (fun _ _ e => hH.wd (le.W _ _ e)) s)
    rw [g1] at e1; cases e1
    have e2 := f2 us (sqL_mono (fun _ _ e => hH.wd (le.W _ _ e)) s')
    rw [g3] at e2; cases e2
    exact pair_new hH nT (Dq.mono le.W _ _ g2) (Dq.mono le.W _ _ g4)
theorem serves_zipT {S : Hp} {κ : Kx} {w : Wd} {a b : Addr} {vs us : List V} {xs ys : List PyData} (s : SqT κ.K w.W a vs) (r : DqAll κ.K w.W vs xs) (s' : SqT κ.K w.W b us) (r' : DqAll κ.K w.W us ys) : Serves κ w S (.fix (pairs xs ys)) (RZ.ItzT κ.K a b) where
  go := fun i w1 st H ds le _ hH hc hi => by
    cases hc
    rw [pairs_len] at hi
    have h1 : i < vs.length := by rw [Fw.DqAll.length r]; omega
    have h2 : i < us.length := by rw [Fw.DqAll.length r']; omega
    exact ⟨vs, us, vs[i], us[i], sqT_mono (fun _ _ e => hH.wd (le.W _ _ e)) s, sqT_mono (fun _ _ e => hH.wd (le.W _ _ e)) s', by simp [h1], by simp [h2]⟩
  stop := fun i w1 st H ds le _ hH hc hi => by
    cases hc
    rw [pairs_len] at hi
    exact ⟨vs, us, sqT_mono (fun _ _ e => hH.wd (le.W _ _ e)) s, sqT_mono (fun _ _ e => hH.wd (le.W _ _ e)) s', by rw [Fw.DqAll.length r, Fw.DqAll.length r']; omega⟩
  yld := fun i w1 st H H' ds d x le _ hH hc hd hy => by
    cases hc
    obtain ⟨T, v, u, rfl, nT, rfl, f1, f2⟩ := hy
    obtain ⟨y, z, h1, h2, rfl⟩ := pairs_get hd
    obtain ⟨v', g1, g2⟩ := DqAll.get r h1
    obtain ⟨u', g3, g4⟩ := DqAll.get r' h2
    have e1 := f1 vs (sqT_mono (fun _ _ e => hH.wd (le.W _ _ e)) s)
    rw [g1] at e1; cases e1
    have e2 := f2 us (sqT_mono (fun _ _ e => hH.wd (le.W _ _ e)) s')
    rw [g3] at e2; cases e2
    exact pair_new hH nT (Dq.mono le.W _ _ g2) (Dq.mono le.W _ _ g4)
theorem r_zip {b : Expr} {elts : List Expr} {kk : Nat} {tpos : Pos} (hg : Gl X "zip") (hm : X.mg "zip" = none) (ha : PA X [a, b] (rdA (kxOf X ex) ms Wx)) (hs : starEach [a, b] X.env = (false, eval a X.env) :: starEach [b] X.env) (hpl : (backTo pos (starEach [b] X.env)).any (·.1) = false) :
    PI X (.Tuple elts kk tpos) (.Call (.Name "zip" p) [a, b] [] pos) (rdI (kxOf X ex) (iArgs ms zip2) Wx) := (RZ.pi_zipA hg hm ha hs hpl).wk fun σ H Q h => by
  obtain ⟨w, env, st, hE, hH, hp⟩ := h
  refine ⟨w, env, st, hE, hH, (PostG.bnd hp).imp fun ds st1 w1 H1 le hH1 hp1 vs rl => ?_⟩
  unfold opt zip2 at hp1
  split at hp1
  · rename_i sr q
    split at q
    · rename_i xs ys
      cases q
      cases rl with
      | cons r1 r2 =>
        cases r2 with
        | cons r2 r3 =>
          cases r3
          have r1' : Dq X.K w1.W _ (.list xs) := r1
          have r2' : Dq X.K w1.W _ (.list ys) := r2
          obtain ⟨b1, v1, rfl, s1, a1⟩ := Dq.lst_inv r1'
          obtain ⟨b2, v2, rfl, s2, a2⟩ := Dq.lst_inv r2'
          exact ⟨b1, b2, v1, v2, rfl, .inl ⟨sqL_mono (fun _ _ e => hH1.wd e) s1, sqL_mono (fun _ _ e => hH1.wd e) s2, hp1 w1 _ (Wd.Le.refl _) hH1 _ (serves_zipL (κ := kxOf X ex) s1 a1 s2 a2)⟩⟩
    · rename_i xs ys
      cases q
      cases rl with
      | cons r1 r2 =>
        cases r2 with
        | cons r2 r3 =>
          cases r3
          have r1' : Dq X.K w1.W _ (.tuple xs) := r1
          have r2' : Dq X.K w1.W _ (.tuple ys) := r2
          obtain ⟨b1, v1, rfl, s1, a1⟩ := Dq.tup_inv r1'
          obtain ⟨b2, v2, rfl, s2, a2⟩ := Dq.tup_inv r2'
          exact ⟨b1, b2, v1, v2, rfl, .inr ⟨sqT_mono (fun _ _ e => hH1.wd e) s1, sqT_mono (fun _ _ e => hH1.wd e) s2, hp1 w1 _ (Wd.Le.refl _) hH1 _ (serves_zipT (κ := kxOf X ex) s1 a1 s2 a2)⟩⟩
    · cases q
  · exact hp1.elim
end
end Fw
set_option Elab.async false
set_option linter.all false
set_option maxRecDepth 100000
set_option maxHeartbeats 4000000
namespace Fw
open PySem PySem.Spec PyProof.Rows L2

/-! ## targets -/
mutual
inductive G where
  | nm (i : Nat)
  | tp (gs : Gs)
inductive Gs where
  | nil
  | cons (g : G) (gs : Gs)
end
mutual
def gSet : G → D → Env' → Option Env'
  | .nm i, d, env => if i < env.length then some (env.set i (some d)) else none
  | .tp gs, d, env => match d with
    | .p x => (match opn x with
      | some xs => gSets gs xs env
      | none => none)
    | _ => none
def gSets : Gs → List PyData → Env' → Option Env'
  | .nil, [], env => some env
  | .cons g gs, x :: xs, env => match gSet g (.p x) env with
    | some env1 => gSets gs xs env1
    | none => none
  | .nil, _ :: _, _ => none
  | .cons _ _, [], _ => none
end
mutual
def gIx : G → List Nat
  | .nm i => [i]
  | .tp gs => gIxs gs
def gIxs : Gs → List Nat
  | .nil => []
  | .cons g gs => gIx g ++ gIxs gs
end
def Gs.len : Gs → Nat
  | .nil => 0
  | .cons _ gs => gs.len + 1
theorem gSets_len : ∀ {gs : Gs} {xs : List PyData} {env env' : Env'}, gSets gs xs env = some env' → xs.length = gs.len
  | .nil, [], _, _, _ => rfl
  | .cons g gs, x :: xs, env, env', h => by
    unfold gSets at h
    split at h
    · have := gSets_len h
      show xs.length + 1 = gs.len + 1
      rw [this]
    · cases h
  | .nil, _ :: _, _, _, h => by cases h
  | .cons _ _, [], _, _, h => by cases h
theorem wipe_set {σ : L2.St} {i : Nat} {x : Option V} : ∀ {vs : List Nat}, i ∈ vs → wipe (σ.set i x) vs = wipe σ vs
  | v :: vs, h => by
    show (wipe (σ.set i x) vs).set v none = (wipe σ vs).set v none
    by_cases e : i ∈ vs
    · rw [wipe_set e]
    · have hv : i = v := by
        rcases List.mem_cons.mp h with z | z
        · exact z
        · exact absurd z e
      subst hv
      have aux : ∀ us : List Nat, wipe (σ.set i x) us = (wipe σ us).set i (if i ∈ us then none else x) ∨ i ∈ us := fun us => by
        induction us with
        | nil => exact .inl (by simp [wipe])
        | cons u us ih =>
          by_cases hu : i ∈ (u :: us)
          · exact .inr hu
          · left
            have h1 : i ∉ us := fun z => hu (List.mem_cons_of_mem _ z)
            have h2 : i ≠ u := fun z => hu (by rw [z]; exact List.mem_cons_self)
            rcases ih with z | z
            · show (wipe (σ.set i x) us).set u none = ((wipe σ us).set u none).set i _
              rw [z, if_neg h1, if_neg hu, List.set_comm _ _ h2]
            · exact absurd z h1
      rcases aux vs with z | z
      · rw [z, List.set_set]
      · exact absurd z e
section
variable {X : Cx} {κ : Kx}
theorem RelE.set {w : Wd} {env : Env'} {σ : L2.St} {i : Nat} {d : D} {v : V} (hE : RelE κ w env σ) (hi : i < env.length) (r : RelD κ.K w d v) : RelE κ w (env.set i (some d)) (σ.set i (some v)) := by
  refine ⟨by simp [hE.1], fun j e h => ?_⟩
  by_cases q : i = j
  · subst q
    rw [List.getElem?_set_self hi] at h
    cases h
    exact ⟨v, by rw [List.getElem?_set_self (by rw [← hE.1]; exact hi)], r⟩
  · rw [List.getElem?_set_ne q] at h
    obtain ⟨u, h1, h2⟩ := hE.2 j e h
    exact ⟨u, by rw [List.getElem?_set_ne q]; exact h1, h2⟩
def rdG (κ : Kx) (g : G) : TG := fun v σ H Q => ∃ w env st d env', RelE κ w env σ ∧ HoldK κ w st H ∧ RelD κ.K w d v ∧ gSet g d env = some env' ∧ ∀ σ', RelE κ w env' σ' → (∀ vs, (∀ i ∈ gIx g, i ∈ vs) → wipe σ' vs = wipe σ vs) → Q σ' H
def rdGs (κ : Kx) (gs : Gs) : TGs := fun us σ H Q => ∃ w env st xs env', RelE κ w env σ ∧ HoldK κ w st H ∧ DqAll κ.K w.W us xs ∧ gSets gs xs env = some env' ∧ ∀ σ', RelE κ w env' σ' → (∀ vs, (∀ i ∈ gIxs gs, i ∈ vs) → wipe σ' vs = wipe σ vs) → Q σ' H
theorem _root_.L2.PG.wk {X : Cx} {tg : Expr} {t t' : TG} (h : PG X tg t) (q : ∀ v σ H Q, t' v σ H Q → t v σ H Q) : PG X tg t' := ⟨fun pins s σ H v u Q I r hw => h.run pins s σ H v u Q I r (q v σ H Q hw)⟩
theorem _root_.L2.PGs.wk {X : Cx} {tg : List Expr} {t t' : TGs} (h : PGs X tg t) (q : ∀ v σ H Q, t' v σ H Q → t v σ H Q) : PGs X tg t' := ⟨fun pins s σ H v u Q I r hw => h.run pins s σ H v u Q I r (q v σ H Q hw)⟩
theorem r_gname {i : Nat} {e : Expr} (h : PG X e (gName i)) : PG X e (rdG κ (.nm i)) := h.wk fun v σ H Q h => by
  obtain ⟨w, env, st, d, env', hE, hH, r, e, q⟩ := h
  unfold gSet at e
  split at e
  · rename_i hi
    cases e
    exact q _ (hE.set hi r) fun vs hv => wipe_set (hv i (by simp [gIx]))
  · cases e
theorem r_gnil : PGs X [] (rdGs κ .nil) := pgs_nil.wk fun v σ H Q h => by
  obtain ⟨w, env, st, xs, env', hE, hH, r, e, q⟩ := h
  cases xs with
  | nil =>
    cases r
    cases e
    exact ⟨rfl, q σ hE fun _ _ => rfl⟩
  | cons x xs => cases e
theorem r_gcons {g : G} {gs : Gs} {e : Expr} {es : List Expr} (h1 : PG X e (rdG κ g)) (h2 : PGs X es (rdGs κ gs)) (hs : (assignEach (e :: es) X.env).map (·.2) = assign e X.env :: (assignEach es X.env).map (·.2)) : PGs X (e :: es) (rdGs κ (.cons g gs)) := (pgs_cons h1 h2 hs).wk fun us σ H Q h => by
  obtain ⟨w, env, st, xs, env', hE, hH, r, e, q⟩ := h
  cases xs with
  | nil => cases e
  | cons x xs =>
    cases r with
    | cons r1 r2 =>
      unfold gSets at e
      split at e
      · rename_i env1 e1
        refine ⟨_, _, rfl, w, env, st, .p x, env1, hE, hH, r1, e1, fun σ1 hE1 w1 => ?_⟩
        exact ⟨w, env1, st, xs, env', hE1, hH, r2, e, fun σ2 hE2 w2 => q σ2 hE2 fun vs hv => (w2 vs fun i hi => hv i (by simp [gIxs, hi])).trans (w1 vs fun i hi => hv i (by simp [gIxs, hi]))⟩
      · cases e
theorem r_gtup {gs : Gs} {es : List Expr} {k : Nat} {pos : Pos} (hc : X.calm = true) (h : PGs X es (rdGs (kxOf X ex) gs)) (hn : (assignEach es X.env).length = gs.len) (hst : (assignEach es X.env).findIdx? (·.1) = none) : PG X (.Tuple es k pos) (rdG (kxOf X ex) (.tp gs)) := (pg_tup hc h hn hst).wk fun v σ H Q h => by
  obtain ⟨w, env, st, d, env', hE, hH, r, e, q⟩ := h
  unfold gSet at e
  split at e
  · rename_i x
    split at e
    · rename_i xs ho
      have r' : Dq X.K w.W v x := r
      obtain ⟨a, vs, rfl, s1, a1⟩ := Dq.opn_inv ho r'
      exact ⟨a, vs, rfl, sqT_mono (fun _ _ e => hH.wd e) s1, by rw [Fw.DqAll.length a1, gSets_len e], w, env, st, xs, env', hE, hH, a1, e, q⟩
    · cases e
  · cases e
end

/-! ## comprehensions -/
def wipeE (env : Env') : List Nat → Env'
  | [] => env
  | v :: vs => (wipeE env vs).set v none
theorem wipeE_some {env : Env'} {i : Nat} {x : D} : ∀ {vs : List Nat}, (wipeE env vs)[i]? = some (some x) → env[i]? = some (some x) ∧ i ∉ vs
  | [], h => ⟨h, by simp⟩
  | v :: vs, h => by
    have h' : ((wipeE env vs).set v none)[i]? = some (some x) := h
    by_cases hi : v = i
    · subst hi
      by_cases hv : v < (wipeE env vs).length
      · rw [List.getElem?_set_self hv] at h'; cases h'
      · rw [List.getElem?_eq_none (by simpa using hv)] at h'; cases h'
    · rw [List.getElem?_set_ne hi] at h'
      obtain ⟨h1, h2⟩ := wipeE_some h'
      exact ⟨h1, by simp only [List.mem_cons, not_or]; exact ⟨fun e => hi e.symm, h2⟩⟩
theorem wipeE_len (env : Env') : ∀ vs : List Nat, (wipeE env vs).length = env.length
  | [] => rfl
  | v :: vs => by show ((wipeE env vs).set v none).length = _; rw [List.length_set, wipeE_len env vs]
theorem RelE.wipe {κ : Kx} {w : Wd} {env : Env'} {σ : L2.St} (h : RelE κ w env σ) (vs : List Nat) : RelE κ w (wipeE env vs) (wipe σ vs) := by
  refine ⟨by rw [wipeE_len, wipe_length, h.1], fun i d e => ?_⟩
  obtain ⟨h1, h2⟩ := wipeE_some e
  obtain ⟨v, h3, h4⟩ := h.2 i d h1
  exact ⟨v, by rw [wipe_out h2]; exact h3, h4⟩
/-- nothing is raised -/
def noexc {α : Type} (m : M α) : M α := fun st => match m st with
  | .ok a st' => .ok a st'
  | .exc _ _ => .bad
  | .bad => .bad
/-- the items of a comprehension, one after another -/
def compL (turn : D → M (List D)) : List D → M (List D)
  | [] => ret []
  | x :: xs => bnd (turn x) fun l => bnd (compL turn xs) fun r => ret (l ++ r)
def compS (src : Src) (turn : D → M (List D)) : Nat → Nat → M (List D)
  | 0, i => fun st => match cont src st with
    | some ds => if ds.length ≤ i then .ok [] st else .bad
    | none => .bad
  | f + 1, i => fun st => match cont src st with
    | some ds => (match ds[i]? with
      | some x => bnd (turn x) (fun l => bnd (compS src turn f (i + 1)) fun r => ret (l ++ r)) st
      | none => .ok [] st)
    | none => .bad
theorem compS_fix {xs : List D} {turn : D → M (List D)} : ∀ (f i : Nat), f + i = xs.length → compS (.fix xs) turn f i = compL turn (xs.drop i)
  | 0, i, h => by
    funext st
    have e : xs.drop i = [] := by rw [List.drop_eq_nil_iff]; omega
    rw [e]
    show (if xs.length ≤ i then R.ok [] st else .bad) = R.ok [] st
    rw [if_pos (by omega)]
  | f + 1, i, h => by
    funext st
    have hi : i < xs.length := by omega
    rw [List.drop_eq_getElem_cons hi]
    show (match xs[i]? with
      | some x => bnd (turn x) (fun l => bnd (compS (.fix xs) turn f (i + 1)) fun r => ret (l ++ r)) st
      | none => R.ok [] st) = _
    rw [show xs[i]? = some xs[i] by simp [hi], compS_fix f (i + 1) (by omega)]
    rfl
def srcLen (s : Src) (st : Sto) : Option Nat := (cont s st).map List.length
/-- a turn: the target, then the rest -/
def turnG (g : G) (env : Env') (body : Env' → M (List D)) : D → M (List D) := fun x => match gSet g x env with
  | none => bad
  | some env1 => noexc (body env1)
def bodyC (t : Env' → M Bool) (m : Env' → M D) : Env' → M (List D) := fun env1 => bnd (t env1) fun b => if b = true then bnd (m env1) fun y => ret [y] else ret []
def compR (cap : Nat) (env : Env') (g : G) (own : List Nat) (body : Env' → M (List D)) (src : Src) : M (List D) := fun st => match srcLen src st with
  | some n => if n ≤ cap then compS src (turnG g (wipeE env own) body) n 0 st else .bad
  | none => .bad
/-- the second clause of a comprehension -/
def bodyI (t : Env' → M Bool) (mi : Env' → M Src) (g : G) (own : List Nat) (body : Env' → M (List D)) : Env' → M (List D) := fun env1 => bnd (t env1) fun b => if b = true then bnd (mi env1) fun src => compR 1000 env1 g own body src else ret []
/-- the new list: one that stands still, or a mutable one -/
def endC (mu : Bool) (ds : List D) : M D := fun st => if mu = true then (if (ds.all fun d => match d with
  | .p _ => true
  | .loc j => decide (j < st.length)) = true then .ok (.loc st.length) (st ++ [.lst ds]) else .bad) else match pures ds with
  | some xs => .ok (.p (.list xs)) st
  | none => .bad
def mComp (mu : Bool) (mi : Env' → M Src) (g : G) (own : List Nat) (t : Env' → M Bool) (m : Env' → M D) : Env' → M D := fun env => bnd (mi env) fun src => bnd (compR 1000000 env g own (bodyC t m) src) (endC mu)
def mComp2 (mu : Bool) (mi : Env' → M Src) (g : G) (own : List Nat) (t : Env' → M Bool) (mi1 : Env' → M Src) (g1 : G) (own1 : List Nat) (t1 : Env' → M Bool) (m : Env' → M D) : Env' → M D := fun env => bnd (mi env) fun src => bnd (compR 1000 env g own (bodyI t mi1 g1 own1 (bodyC t1 m)) src) (endC mu)
abbrev FW : WX := fun _ _ _ _ => False
section
variable {X : Cx} {κ : Kx} {Wx : WX} {ex : Nat → Addr}
theorem PostG.noexc {α : Type} {m : M α} {w : Wd} {st : Sto} {σ σ' : L2.St} {C : α → Sto → Wd → Hp → Prop} (h : PostG κ Wx σ w (noexc m st) C) : PostG κ FW σ' w (m st) C := by
  unfold Fw.noexc at h
  cases q : m st with
  | ok a st' => rw [q] at h; exact h
  | exc c st' => rw [q] at h; exact h.elim
  | bad => rw [q] at h; exact h.elim
/-- what is left of a comprehension, in the world without the list -/
theorem comp_end {w w1 : Wd} {st : Sto} {H : Hp} {D : Addr} {ds : List Fw.D} {vs : List V} {mu : Bool} {σ : L2.St} {Q : VK} (hH : HoldK κ w1 st H) (lc : w.Lc w1) (hT : w1.T = upd w.T D (.lst vs)) (nT : w.T D = none) (rl : RelL κ.K w1 ds vs)
    (hp : PostG κ Wx σ (w1.tmp w.T) (endC mu ds st) (CV κ Q)) : Q (.ref D) H := by
  have hD : w1.T D = some (.lst vs) := by rw [hT, upd_same]
  have ht : ∀ a u, w.T a = some u → w1.T a = some u ∧ a ≠ D := fun a u e => by
    have na := ne_of_none e nT
    rw [hT, upd_ne na]
    exact ⟨e, na⟩
  unfold endC at hp
  cases mu with
  | true =>
    rw [if_pos rfl] at hp
    split at hp
    · rename_i hw
      have hI := Hold.tmp_mut (b := .lst ds) hH hD ⟨vs, rfl, rl⟩ (wf_all hw) ht
      refine hp (w1.put D w.T) H ⟨⟨fun _ _ e => e, [D], rfl⟩, rfl⟩ hI _ ⟨D, rfl, ?_⟩
      show (w1.L ++ [D])[st.length]? = some D
      rw [← hH.len, List.getElem?_append_right (Nat.le_refl _)]
      simp
    · exact hp.elim
  | false =>
    rw [if_neg Bool.false_ne_true] at hp
    cases q : pures ds with
    | none => rw [q] at hp; exact hp.elim
    | some xs =>
      rw [q] at hp
      have e := pures_eq q
      subst e
      have hI := Hold.tmp_imm (o := .lst vs) hH hD trivial ht
      have hWD := (hH.tw D _ hD).1
      have lw : ∀ a u, w1.W a = some u → (w1.fix D (.lst vs) w.T).W a = some u := fun a u e => by
        show upd w1.W D (.lst vs) a = some u
        rw [upd_ne (ne_of_none e hWD)]; exact e
      exact hp (w1.fix D (.lst vs) w.T) H ⟨⟨lw, [], by simp [Wd.fix, Wd.tmp]⟩, rfl⟩ hI _ (.lst (SqL.of upd_same) (Dq.monoA lw _ _ rl.pure))
theorem PostG.tmp {α : Type} {m : M α} {w : Wd} {t : Hp} {st : Sto} {σ : L2.St} {C : α → Sto → Wd → Hp → Prop} (h : PostG κ Wx σ w (m st) C) : PostG κ Wx σ w (m st) C := h
/-- a temporary left out -/
theorem Hold.untmp {w : Wd} {st : Sto} {H : Hp} {D : Addr} {o : HO} {T0 : Hp} (h : HoldK κ w st H) (hT : w.T = upd T0 D o) (nT : T0 D = none) : HoldK κ (w.tmp T0) st H := by
  have hT2 : ∀ a u, T0 a = some u → w.T a = some u := fun a u e => by rw [hT, upd_ne (ne_of_none e nT)]; exact e
  exact ⟨h.imm, h.len, fun n a b e1 e2 => by
    obtain ⟨o, h1, h2⟩ := h.obs n a b e1 e2
    exact ⟨o, h1, h2.mono Wd.lc_tmp⟩, h.nd, h.ap, h.wf, fun a u e => h.tmp a u (hT2 a u e), fun a u e => h.tw a u (hT2 a u e), fun a xs e => h.tt a xs (hT2 a _ e)⟩
theorem PostG.up {β : Type} {r : R β} {w : Wd} {σ : L2.St} {D : Addr} {o : HO} {T0 : Hp} {C : β → Sto → Wd → Hp → Prop} (hT : w.T = upd T0 D o) (nT : T0 D = none) (h : PostG κ Wx σ (w.tmp T0) r C) : PostG κ Wx σ w r fun b st' w' H' => C b st' (w'.tmp T0) H' := by
  have up : ∀ {w' : Wd}, w.Le w' → (w.tmp T0).Le (w'.tmp T0) := fun le => ⟨⟨le.W, le.L⟩, rfl⟩
  cases r with
  | ok b st => exact fun w' H le hh => h (w'.tmp T0) H (up le) (Hold.untmp hh (le.T.trans hT) nT)
  | exc c st => exact fun w' H le hh => h (w'.tmp T0) H (up le) (Hold.untmp hh (le.T.trans hT) nT)
  | bad => exact h
theorem wipe_wipe (σ : L2.St) : ∀ vs : List Nat, wipe (wipe σ vs) vs = wipe σ vs := fun vs => by
  have aux : ∀ us : List Nat, (∀ u ∈ us, u ∈ vs) → wipe (wipe σ vs) us = wipe σ vs := fun us => by
    induction us with
    | nil => intro _; rfl
    | cons u us ih =>
      intro h
      show (wipe (wipe σ vs) us).set u none = wipe σ vs
      rw [ih fun x hx => h x (List.mem_cons_of_mem _ hx)]
      have hu : u ∈ vs := h u List.mem_cons_self
      -- the slot is none already
      have none_at : ∀ {vs : List Nat}, u ∈ vs → u < σ.length → (wipe σ vs)[u]? = some none := fun {vs} => by
        induction vs with
        | nil => intro h; cases h
        | cons v vs ih2 =>
          intro h hl
          show ((wipe σ vs).set v none)[u]? = some none
          by_cases e : v = u
          · subst e
            rw [List.getElem?_set_self (by rw [wipe_length]; exact hl)]
          · rw [List.getElem?_set_ne e]
            rcases List.mem_cons.mp h with z | z
            · exact absurd z.symm e
            · exact ih2 z hl
      by_cases hl : u < σ.length
      · apply List.ext_getElem?
        intro j
        by_cases e : u = j
        · subst e
          rw [List.getElem?_set_self (by rw [wipe_length]; exact hl), none_at hu hl]
        · rw [List.getElem?_set_ne e]
      · rw [List.set_eq_of_length_le (by rw [wipe_length]; omega)]
  exact aux vs fun _ h => h
/-- what a loop of a comprehension is to do -/
def loopW (J : It) (Z : Hp → Prop) (g : TG) (σ : L2.St) (vs : List Nat) (B : L2.St → Hp → (Hp → Prop) → Prop) (H0 : Hp) : Prop := ∃ W : Nat → Nat → Hp → Prop, (∃ m, W 0 m H0) ∧ ∀ i m H, W i m H →
  (J.stop i H ∧ Z H) ∨ (J.go i H ∧ ∃ Nx : Hp → Prop, (∀ H', Nx H' → ∃ m', m' < m ∧ W (i + 1) m' H') ∧ ∀ x H', J.yld i H x H' → g x (wipe σ vs) H' fun σ2 H2 => wipe σ2 vs = wipe σ vs ∧ B σ2 H2 Nx)
/-- where a loop stands: the list at D holds us, which stand for ds -/
structure Std (κ : Kx) (w1 : Wd) (T0 : Hp) (D : Addr) (w : Wd) (st : Sto) (H : Hp) (ds : List Fw.D) (us : List V) : Prop where
  lc : w1.Lc w
  t : w.T = upd T0 D (.lst us)
  h : HoldK κ w st H
  rl : RelL κ.K w ds us
/-- a body's reading, by its computation -/
def BodyOk (κ : Kx) (D : Addr) (T0 : Hp) (c : Nat) (body : Env' → M (List Fw.D)) (B : L2.St → Hp → (Hp → Prop) → Prop) : Prop :=
  ∀ (w1 w2 : Wd) (st : Sto) (H' : Hp) (ds : List Fw.D) (us : List V) (env3 : Env') (σ3 : L2.St) (Nx : Hp → Prop) (C4 : List Fw.D → Sto → Wd → Hp → Prop), RelE κ w2 env3 σ3 → Std κ w1 T0 D w2 st H' ds us → us.length + c ≤ 2000000 →
    PostG κ FW σ3 (w2.tmp T0) (body env3 st) C4 →
    (∀ (st4 : Sto) (w4 : Wd) (H4 : Hp) (l : List Fw.D) (us4 : List V), w2.Lc w4 → Std κ w1 T0 D w4 st4 H4 (ds ++ l) us4 → us4.length ≤ us.length + c → C4 l st4 (w4.tmp T0) H4 → Nx H4) → B σ3 H' Nx
theorem comp_loop {S : Hp} {w1 w : Wd} {src : Src} {J : It} {Z : Hp → Prop} {g : G} {σ σx : L2.St} {Wy : WX} {vs : List Nat} {B : L2.St → Hp → (Hp → Prop) → Prop} {H0 : Hp} {D : Addr} {T0 : Hp} {c n : Nat} {body : Env' → M (List Fw.D)} {env : Env'} {st0 : Sto} {ds0 : List Fw.D} {us0 : List V} {C : List Fw.D → Sto → Wd → Hp → Prop}
    (hg : ∀ i ∈ gIx g, i ∈ vs) (sv : Serves κ w1 S src J) (hS : ∀ b o, S b = some o → T0 b = some o) (nT : T0 D = none) (hb : BodyOk κ D T0 c body B) (hE : RelE κ w1 env σ) (sd : Std κ w1 T0 D w st0 H0 ds0 us0) (hc : us0.length + (n + 1) * c ≤ 2000000)
    (hp : PostG κ Wy σx (w.tmp T0) (compS src (turnG g (wipeE env vs) body) n 0 st0) fun r st2 w2 H2 => C (ds0 ++ r) st2 w2 H2)
    (fin : ∀ (st4 : Sto) (w4 : Wd) (H4 : Hp) (ds4 : List Fw.D) (us4 : List V), w.Lc w4 → Std κ w1 T0 D w4 st4 H4 ds4 us4 → us4.length ≤ us0.length + n * c → C ds4 st4 (w4.tmp T0) H4 → Z H4) :
    loopW J Z (rdG κ g) σ vs B H0 := by
  refine ⟨fun i f H => f + i = n ∧ ∃ (w' : Wd) (st : Sto) (ds : List Fw.D) (us : List V), w.Lc w' ∧ Std κ w1 T0 D w' st H ds us ∧ us.length ≤ us0.length + i * c ∧
    PostG κ Wy σx (w'.tmp T0) (compS src (turnG g (wipeE env vs) body) f i st) (fun r st2 w2 H2 => C (ds ++ r) st2 w2 H2), ⟨n, rfl, w, st0, ds0, us0, Wd.Lc.refl w, sd, by omega, hp⟩, ?_⟩
  rintro i f H ⟨hfi, w', st, ds, us, lcw, sd, hul, hp⟩
  have hin : i ≤ n := by omega
  have hSw : ∀ b o, S b = some o → w'.T b = some o := fun b o e => by
    rw [sd.t, upd_ne (ne_of_none (hS b o e) nT)]
    exact hS b o e
  have hic : i * c ≤ n * c := Nat.mul_le_mul_right c hin
  have done : PostG κ Wy σx (w'.tmp T0) (.ok ([] : List Fw.D) st) (fun r st2 w2 H2 => C (ds ++ r) st2 w2 H2) → Z H := fun hq => by
    have hq' : ∀ w'' H', (w'.tmp T0).Le w'' → HoldK κ w'' st H' → C (ds ++ []) st w'' H' := hq
    rw [List.append_nil] at hq'
    exact fin st w' H ds us lcw sd (by omega) (hq' _ H (Wd.Le.refl _) (Hold.untmp sd.h sd.t nT))
  cases f with
  | zero =>
    have hp' : PostG κ Wy σx (w'.tmp T0) (match cont src st with
      | some ds => if ds.length ≤ i then R.ok [] st else .bad
      | none => .bad) (fun r st2 w2 H2 => C (ds ++ r) st2 w2 H2) := hp
    cases qc : cont src st with
    | none => rw [qc] at hp'; exact hp'.elim
    | some ls =>
      rw [qc] at hp'
      simp only at hp'
      split at hp'
      · rename_i hl
        exact .inl ⟨sv.stop i w' st H ls sd.lc hSw sd.h qc hl, done hp'⟩
      · exact hp'.elim
  | succ f =>
    have hp' : PostG κ Wy σx (w'.tmp T0) (match cont src st with
      | some ds => (match ds[i]? with
        | some x => bnd (turnG g (wipeE env vs) body x) (fun l => bnd (compS src (turnG g (wipeE env vs) body) f (i + 1)) fun r => ret (l ++ r)) st
        | none => .ok [] st)
      | none => .bad) (fun r st2 w2 H2 => C (ds ++ r) st2 w2 H2) := hp
    cases qc : cont src st with
    | none => rw [qc] at hp'; exact hp'.elim
    | some ls =>
      rw [qc] at hp'
      simp only at hp'
      cases qi : ls[i]? with
      | none =>
        rw [qi] at hp'
        exact .inl ⟨sv.stop i w' st H ls sd.lc hSw sd.h qc (List.getElem?_eq_none_iff.mp qi), done hp'⟩
      | some x =>
        rw [qi] at hp'
        simp only at hp'
        have hli : i < ls.length := (List.getElem?_eq_some_iff.mp qi).1
        refine .inr ⟨sv.go i w' st H ls sd.lc hSw sd.h qc hli, fun H' => ∃ (w' : Wd) (st : Sto) (ds : List Fw.D) (us : List V), w.Lc w' ∧ Std κ w1 T0 D w' st H' ds us ∧ us.length ≤ us0.length + (i + 1) * c ∧
          PostG κ Wy σx (w'.tmp T0) (compS src (turnG g (wipeE env vs) body) f (i + 1) st) (fun r st2 w2 H2 => C (ds ++ r) st2 w2 H2), fun H' hN => ⟨f, Nat.lt_succ_self f, by omega, hN⟩, fun v H' hy => ?_⟩
        obtain ⟨w2, le2, hH2, rx⟩ := sv.yld i w' st H H' ls x v sd.lc hSw sd.h qc qi hy
        have lc2 : w1.Lc w2 := sd.lc.trans le2.toLc
        have hE2 : RelE κ w2 (wipeE env vs) (wipe σ vs) := (hE.mono lc2).wipe vs
        have hp3 := PostG.bnd hp'
        unfold turnG at hp3
        cases qg : gSet g x (wipeE env vs) with
        | none => rw [qg] at hp3; exact hp3.elim
        | some env3 =>
          rw [qg] at hp3
          simp only at hp3
          refine ⟨w2, wipeE env vs, st, x, env3, hE2, hH2, rx, qg, fun σ3 hE3 hw3 => ⟨by rw [hw3 vs hg]; exact wipe_wipe σ vs, ?_⟩⟩
          have le3 : (w'.tmp T0).Le (w2.tmp T0) := ⟨⟨le2.W, le2.L⟩, rfl⟩
          have hic2 : (i + 1) * c ≤ (n + 1) * c := Nat.mul_le_mul_right c (by omega)
          have hic3 : (i + 1) * c = i * c + c := by rw [Nat.add_mul, Nat.one_mul]
          refine hb w1 w2 st H' ds us env3 σ3 _ _ hE3 ⟨lc2, le2.T.trans sd.t, hH2, sd.rl.mono le2.toLc⟩ (by omega) (PostG.noexc (PostG.anti le3 hp3)) fun st4 w4 H4 l us4 lc4 sd4 hl4 hc4 => ?_
          refine ⟨w4, st4, ds ++ l, us4, (lcw.trans le2.toLc).trans lc4, sd4, by omega, ?_⟩
          refine (PostG.bnd hc4).imp fun r st5 w5 H5 le5 hH5 hp8 => ?_
          have hp9 := PostG.ret (C := fun r st2 w2 H2 => C (ds ++ r) st2 w2 H2) hH5 hp8
          rw [List.append_assoc]
          exact hp9
/-- the body of a plain comprehension -/
theorem body_plain {D : Addr} {T0 : Hp} {t : Env' → M Bool} {m : Env' → M Fw.D} (nT : T0 D = none) : BodyOk κ D T0 1 (bodyC t m) fun σ3 H' Nx => rdT κ t FW σ3 H' fun b H3 => if b = true then rdE κ m FW σ3 H3 fun y H4 => ∃ acc, H4 D = some (.lst acc) ∧ acc.length < sizeLine ∧ Nx (upd H4 D (.lst (acc ++ [y]))) else Nx H3 := by
  intro w1 w2 st H' ds us env3 σ3 Nx C4 hE3 sd hcap hp fin
  refine ⟨w2, env3, st, hE3, sd.h, (PostG.up sd.t nT (PostG.bnd hp)).imp fun b st1 w3 H3 le3 hH3 hp5 => ?_⟩
  have t3 : w3.T = upd T0 D (.lst us) := le3.T.trans sd.t
  cases b with
  | true =>
    rw [if_pos rfl] at hp5
    refine iteT ⟨w3, env3, st1, hE3.mono le3.toLc, hH3, (PostG.up t3 nT (PostG.bnd hp5)).imp fun y st4 w4 H4 le4 hH4 hp6 v rv => ?_⟩
    have t4 : w4.T = upd T0 D (.lst us) := le4.T.trans t3
    have d4 : w4.T D = some (.lst us) := by rw [t4, upd_same]
    have hp7 := PostG.ret (Hold.untmp hH4 t4 nT) hp6
    refine ⟨us, hH4.tmp D _ d4, Nat.lt_of_lt_of_le (show us.length < 2000001 by omega) (by rw [sizeLine_eq]; omega), ?_⟩
    have hs := Hold.tmp_set (o' := .lst (us ++ [v])) hH4 d4 (fun _ z => nomatch z)
    rw [t4, upd_upd] at hs
    have lc34 : w2.Lc w4 := (le3.trans le4).toLc
    refine fin st4 (w4.tmp (upd T0 D (.lst (us ++ [v])))) _ [y] (us ++ [v]) (lc34.trans Wd.lc_tmp) ⟨(sd.lc.trans lc34).trans Wd.lc_tmp, rfl, hs, RelL.mono Wd.lc_tmp (RelL.app (sd.rl.mono lc34) (.cons rv .nil))⟩ (by simp) ?_
    -- the end speaks of the world alone
    have hold : HoldK κ (w4.tmp T0) st4 (upd H4 D (.lst (us ++ [v]))) := Hold.untmp (w := w4.tmp (upd T0 D (.lst (us ++ [v])))) hs rfl nT
    exact PostG.ret hold hp6
  | false =>
    rw [if_neg Bool.false_ne_true] at hp5
    refine iteF ?_
    have hp7 := PostG.ret (Hold.untmp hH3 t3 nT) hp5
    refine fin st1 w3 H3 [] us le3.toLc ⟨sd.lc.trans le3.toLc, t3, hH3, by rw [List.append_nil]; exact sd.rl.mono le3.toLc⟩ (by omega) hp7
/-- the body that is a second clause -/
theorem body_inner {D : Addr} {T0 : Hp} {t : Env' → M Bool} {mi : Env' → M Src} {g : G} {vs : List Nat} {body : Env' → M (List Fw.D)} {B : L2.St → Hp → (Hp → Prop) → Prop} (nT : T0 D = none) (hg : ∀ i ∈ gIx g, i ∈ vs) (hb : BodyOk κ D T0 1 body B) :
    BodyOk κ D T0 1001 (bodyI t mi g vs body) fun σ3 H' Nx => rdT κ t FW σ3 H' fun b H3 => if b = true then rdI κ mi FW σ3 H3 fun J H4 => loopW J Nx (rdG κ g) σ3 vs B H4 else Nx H3 := by
  intro w1 w2 st H' ds us env3 σ3 Nx C4 hE3 sd hcap hp fin
  refine ⟨w2, env3, st, hE3, sd.h, (PostG.up sd.t nT (PostG.bnd hp)).imp fun b st1 w3 H3 le3 hH3 hp5 => ?_⟩
  have t3 : w3.T = upd T0 D (.lst us) := le3.T.trans sd.t
  cases b with
  | true =>
    rw [if_pos rfl] at hp5
    refine iteT ⟨w3, env3, st1, hE3.mono le3.toLc, hH3, (PostG.up t3 nT (PostG.bnd hp5)).imp fun src st4 w4 H4 le4 hH4 hp6 J sv => ?_⟩
    have t4 : w4.T = upd T0 D (.lst us) := le4.T.trans t3
    have lc34 : w2.Lc w4 := (le3.trans le4).toLc
    unfold compR at hp6
    cases qn : srcLen src st4 with
    | none => rw [qn] at hp6; exact hp6.elim
    | some n =>
      rw [qn] at hp6
      dsimp only at hp6
      by_cases hn : n ≤ 1000
      · rw [if_pos hn] at hp6
        refine comp_loop (w1 := w4) (w := w4) (T0 := T0) (us0 := us) (ds0 := ds) (n := n) (C := fun r st2 w2 H2 => ∃ l, r = ds ++ l ∧ C4 l st2 w2 H2) hg sv (fun _ _ z => nomatch z) nT hb (hE3.mono lc34) ⟨Wd.Lc.refl _, t4, hH4, sd.rl.mono lc34⟩ (by omega) (hp6.imp fun r st2 w2 H2 _ _ q => ⟨r, rfl, q⟩) fun st5 w5 H5 ds5 us5 lc5 sd5 hl5 hq => ?_
        obtain ⟨l, rfl, hq⟩ := hq
        exact fin st5 w5 H5 l us5 (lc34.trans lc5) ⟨sd.lc.trans (lc34.trans lc5), sd5.t, sd5.h, sd5.rl⟩ (by omega) hq
      · rw [if_neg hn] at hp6
        exact hp6.elim
  | false =>
    rw [if_neg Bool.false_ne_true] at hp5
    refine iteF ?_
    have hp7 := PostG.ret (Hold.untmp hH3 t3 nT) hp5
    refine fin st1 w3 H3 [] us le3.toLc ⟨sd.lc.trans le3.toLc, t3, hH3, by rw [List.append_nil]; exact sd.rl.mono le3.toLc⟩ (by omega) hp7
/-- the reading of a comprehension -/
theorem rd_compG {mu : Bool} {mi : Env' → M Src} {g : G} {σ : L2.St} {H : Hp} {Q : VK} {vs : List Nat} {c cap : Nat} {body : Env' → M (List Fw.D)} {B : Addr → L2.St → Hp → (Hp → Prop) → Prop} (hg : ∀ i ∈ gIx g, i ∈ vs) (hb : ∀ D T0, T0 D = none → BodyOk κ D T0 c body (B D)) (hcap : (cap + 1) * c ≤ 2000000)
    (h : rdE κ (fun env => bnd (mi env) fun src => bnd (compR cap env g vs body src) (endC mu)) Wx σ H Q) : rdI κ mi Wx σ H fun J H1 => ∀ D, H1 D = none → loopW J (fun H => Q (.ref D) H) (rdG κ g) σ vs (B D) (upd H1 D (.lst [])) := by
  obtain ⟨w0, env, st0, hE0, hH0, hp0⟩ := h
  refine ⟨w0, env, st0, hE0, hH0, (PostG.bnd hp0).imp fun src st1 w1 H1 le1 hH1 hp1 J sv D nD => ?_⟩
  have nT : w1.T D = none := by
    cases q : w1.T D with
    | none => rfl
    | some o => rw [hH1.tmp D o q] at nD; cases nD
  have hp2 := PostG.bnd hp1
  unfold compR at hp2
  cases qn : srcLen src st1 with
  | none => rw [qn] at hp2; exact hp2.elim
  | some n =>
    rw [qn] at hp2
    dsimp only at hp2
    by_cases hn : n ≤ cap
    · rw [if_pos hn] at hp2
      have hcn : (n + 1) * c ≤ (cap + 1) * c := Nat.mul_le_mul_right c (by omega)
      refine comp_loop (w1 := w1) (w := w1.tmp (upd w1.T D (.lst []))) (T0 := w1.T) (us0 := []) (ds0 := []) (n := n) (C := fun r st2 w2 H2 => PostG κ Wx σ w2 (endC mu r st2) (CV κ Q)) hg sv (fun _ _ z => nomatch z) nT (hb D _ nT) (hE0.mono le1.toLc) ⟨Wd.lc_tmp, rfl, Hold.tmp_new hH1 nD (fun _ z => nomatch z), .nil⟩ (by simp; omega) (hp2.imp fun r st2 w2 H2 _ _ q => q) fun st4 w4 H4 ds4 us4 lc4 sd4 _ hq => ?_
      exact comp_end sd4.h sd4.lc sd4.t nT sd4.rl hq
    · rw [if_neg hn] at hp2
      exact hp2.elim
end
end Fw
set_option Elab.async false
set_option linter.all false
set_option maxRecDepth 100000
set_option maxHeartbeats 4000000
namespace Fw
open PySem PySem.Spec PyProof.Rows L2
section
variable {X : Cx} {κ : Kx} {Wx : WX} {ex : Nat → Addr} {elt tg iter tg1 iter1 : Expr} {ifs ifs1 : List Expr} {scope : Scope} {own : List (Str × Nat)} {pos : Pos} {mi mi1 : Env' → M Src} {g g1 : G} {t t1 : Env' → M Bool} {m : Env' → M D}
theorem _root_.L2.PTs.wk {X : Cx} {e : List Expr} {t t' : TT} (h : PTs X e t) (q : ∀ σ H Q, t' σ H Q → t σ H Q) : PTs X e t' := ⟨fun pins s σ H Q I hw => h.run pins s σ H Q I (q σ H Q hw)⟩
def tTr : Env' → M Bool := fun _ => ret true
theorem r_ts0 : PTs X [] (rdT κ tTr Wx) := pts_nil.wk fun σ H Q h => by
  obtain ⟨w, env, st, hE, hH, hp⟩ := h
  exact PostG.ret (C := CB Q) hH hp
theorem r_ts1 {c : Expr} (h : PT X c (rdT κ t Wx)) : PTs X [c] (rdT κ t Wx) := pts_one h
theorem r_comp {mu : Bool} (hc : X.calm = true) (hN : X.N.Nodup) (hi : PI X tg iter (rdI (kxOf X ex) mi Wx)) (ok : BlkOk X.N X.env.scope scope own) (hgx : ∀ i ∈ gIx g, i ∈ own.map (·.2))
    (hg : ∀ (s : Shared) (H : Hp) (C : Addr) (cl : List (Str × Addr)) (fp : List Addr), PG (X.blk s H scope (compEnvC scope cl C X.env) fp) tg (rdG (kxOf X ex) g)) (ht : ∀ (s : Shared) (H : Hp) (C : Addr) (cl : List (Str × Addr)) (fp : List Addr), PTs (X.blk s H scope (compEnvC scope cl C X.env) fp) ifs (rdT (kxOf X ex) t FW))
    (he : ∀ (s : Shared) (H : Hp) (C : Addr) (cl : List (Str × Addr)) (fp : List Addr), PE (X.blk s H scope (compEnvC scope cl C X.env) fp) elt (rdE (kxOf X ex) m FW)) (hs : ∀ x, foldedSetIterable iter X.env x = pure x) :
    PE X (.ListComp elt [⟨tg, iter, ifs, 0⟩] scope pos) (rdE (kxOf X ex) (mComp mu mi g (own.map (·.2)) t m) Wx) :=
  (pe_lc hc hN hi ok hg ht he hs).wk fun σ H Q h => rd_compG (B := fun D σ3 H' Nx => rdT (kxOf X ex) t FW σ3 H' fun b H3 => if b = true then rdE (kxOf X ex) m FW σ3 H3 fun y H4 => ∃ acc, H4 D = some (.lst acc) ∧ acc.length < sizeLine ∧ Nx (upd H4 D (.lst (acc ++ [y]))) else Nx H3) hgx (fun D T0 nT => body_plain nT) (by decide) h
theorem r_comp2 {mu : Bool} {vs1 : List Nat} (hc : X.calm = true) (hN : X.N.Nodup) (hi : PI X tg iter (rdI (kxOf X ex) mi Wx)) (ok : BlkOk X.N X.env.scope scope own) (hv : ∀ i ∈ vs1, i ∈ own.map (·.2)) (hgx : ∀ i ∈ gIx g, i ∈ own.map (·.2)) (hgx1 : ∀ i ∈ gIx g1, i ∈ vs1)
    (hg : ∀ (s : Shared) (H : Hp) (C : Addr) (cl : List (Str × Addr)) (fp : List Addr), PG (X.blk s H scope (compEnvC scope cl C X.env) fp) tg (rdG (kxOf X ex) g)) (ht : ∀ (s : Shared) (H : Hp) (C : Addr) (cl : List (Str × Addr)) (fp : List Addr), PTs (X.blk s H scope (compEnvC scope cl C X.env) fp) ifs (rdT (kxOf X ex) t FW))
    (hi1 : ∀ (s : Shared) (H : Hp) (C : Addr) (cl : List (Str × Addr)) (fp : List Addr), PI (X.blk s H scope (compEnvC scope cl C X.env) fp) tg1 iter1 (rdI (kxOf X ex) mi1 FW))
    (hg1 : ∀ (s : Shared) (H : Hp) (C : Addr) (cl : List (Str × Addr)) (fp : List Addr), PG (X.blk s H scope (compEnvC scope cl C X.env) fp) tg1 (rdG (kxOf X ex) g1)) (ht1 : ∀ (s : Shared) (H : Hp) (C : Addr) (cl : List (Str × Addr)) (fp : List Addr), PTs (X.blk s H scope (compEnvC scope cl C X.env) fp) ifs1 (rdT (kxOf X ex) t1 FW))
    (he : ∀ (s : Shared) (H : Hp) (C : Addr) (cl : List (Str × Addr)) (fp : List Addr), PE (X.blk s H scope (compEnvC scope cl C X.env) fp) elt (rdE (kxOf X ex) m FW)) (hs : ∀ x, foldedSetIterable iter X.env x = pure x) (hs1 : ∀ env x, foldedSetIterable iter1 env x = pure x) :
    PE X (.ListComp elt [⟨tg, iter, ifs, 0⟩, ⟨tg1, iter1, ifs1, 0⟩] scope pos) (rdE (kxOf X ex) (mComp2 mu mi g (own.map (·.2)) t mi1 g1 vs1 t1 m) Wx) :=
  (pe_lc2 hc hN hi ok hv hg ht hi1 hg1 ht1 he hs hs1).wk fun σ H Q h => rd_compG (B := fun D σ3 H' Nx => rdT (kxOf X ex) t FW σ3 H' fun b H3 => if b = true then rdI (kxOf X ex) mi1 FW σ3 H3 fun J H4 => loopW J Nx (rdG (kxOf X ex) g1) σ3 vs1 (fun σ3 H' Nx => rdT (kxOf X ex) t1 FW σ3 H' fun b H3 => if b = true then rdE (kxOf X ex) m FW σ3 H3 fun y H4 => ∃ acc, H4 D = some (.lst acc) ∧ acc.length < sizeLine ∧ Nx (upd H4 D (.lst (acc ++ [y]))) else Nx H3) H4 else Nx H3) hgx (fun D T0 nT => body_inner nT hgx1 (body_plain nT)) (by decide) h
end

/-! ## statements -/
inductive RS where
  | nx (env : Env') (st : Sto)
  | ret (d : D) (st : Sto)
  | brk (env : Env') (st : Sto)
  | cnt (env : Env') (st : Sto)
  | exc (c : Nat) (env : Env') (st : Sto)
  | bad
abbrev MS := Env' → Sto → RS
def PostS (κ : Kx) (Wx : WX) (E : Ends) (w : Wd) (r : RS) : Prop := match r with
  | .nx env st => ∀ w' σ' H', w.Le w' → HoldK κ w' st H' → RelE κ w' env σ' → E.nx σ' H'
  | .ret d st => ∀ w' v H', w.Le w' → HoldK κ w' st H' → RelD κ.K w' d v → E.rt v H'
  | .brk env st => ∀ w' σ' H', w.Le w' → HoldK κ w' st H' → RelE κ w' env σ' → E.bk σ' H'
  | .cnt env st => ∀ w' σ' H', w.Le w' → HoldK κ w' st H' → RelE κ w' env σ' → E.ct σ' H'
  | .exc c env st => ∀ w' σ' H', w.Le w' → HoldK κ w' st H' → RelE κ w' env σ' → Wx (.ref (κ.ex c)) none σ' H'
  | .bad => False
def rdS (κ : Kx) (m : MS) (Wx : WX) : TS := fun E σ H => ∃ w env st, RelE κ w env σ ∧ HoldK κ w st H ∧ PostS κ Wx E w (m env st)
/-- an expression within a statement -/
def sbnd {α : Type} (m : M α) (env : Env') (f : α → Sto → RS) : Sto → RS := fun st => match m st with
  | .ok a st' => f a st'
  | .exc c st' => .exc c env st'
  | .bad => .bad
section
variable {X : Cx} {κ : Kx} {Wx : WX} {ex : Nat → Addr} {E : Ends} {σ : L2.St} {H : Hp} {w : Wd} {env : Env'} {st : Sto} {ma mb : Env' → M D} {e : Expr} {pos : Pos}
theorem PostS.anti {w1 : Wd} {r : RS} (le : w.Le w1) (h : PostS κ Wx E w r) : PostS κ Wx E w1 r := by
  cases r with
  | nx env st => exact fun w' σ' H' le' => h w' σ' H' (le.trans le')
  | ret d st => exact fun w' σ' H' le' => h w' σ' H' (le.trans le')
  | brk env st => exact fun w' σ' H' le' => h w' σ' H' (le.trans le')
  | cnt env st => exact fun w' σ' H' le' => h w' σ' H' (le.trans le')
  | exc c env st => exact fun w' σ' H' le' => h w' σ' H' (le.trans le')
  | bad => exact h
theorem PostS.bnd {α : Type} {m : M α} {f : α → Sto → RS} (hE : RelE κ w env σ) (h : PostS κ Wx E w (sbnd m env f st)) : PostG κ Wx σ w (m st) fun a st1 w1 _ => PostS κ Wx E w1 (f a st1) := by
  unfold sbnd at h
  cases q : m st with
  | ok a st' => rw [q] at h; exact fun w' H' le hh => PostS.anti le h
  | exc c st' => rw [q] at h; exact fun w' H' le hh => h w' σ H' le hh (hE.mono le.toLc)
  | bad => rw [q] at h; exact h
theorem rd_ones {f : D → Sto → RS} (hE : RelE κ w env σ) (hH : HoldK κ w st H) (h : PostS κ Wx E w (sbnd (ma env) env f st)) :
    rdE κ ma Wx σ H fun v H1 => ∃ w1 x st1, w.Le w1 ∧ RelD κ.K w1 x v ∧ RelE κ w1 env σ ∧ HoldK κ w1 st1 H1 ∧ PostS κ Wx E w1 (f x st1) :=
  ⟨w, env, st, hE, hH, (PostS.bnd hE h).imp fun x st1 w1 H1 le hH1 hp v rv => ⟨w1, x, st1, le, rv, hE.mono le.toLc, hH1, hp⟩⟩
/-- blocks -/
def sNil : MS := fun env st => .nx env st
def sSeq (a b : MS) : MS := fun env st => match a env st with
  | .nx env' st' => b env' st'
  | r => r
theorem r_snil : PSs X [] (rdS κ sNil Wx) := pss_nil.wk fun E σ H h => by
  obtain ⟨w, env, st, hE, hH, hp⟩ := h
  exact hp w σ H (Wd.Le.refl w) hH hE
variable {s1 : Stmt} {ss : List Stmt} {a b : MS}
theorem r_scons (h1 : PS X s1 (rdS κ a Wx)) (h2 : PSs X ss (rdS κ b Wx)) : PSs X (s1 :: ss) (rdS κ (sSeq a b) Wx) := (pss_cons h1 h2).wk fun E σ H h => by
  obtain ⟨w, env, st, hE, hH, hp⟩ := h
  refine ⟨w, env, st, hE, hH, ?_⟩
  unfold sSeq at hp
  cases q : a env st with
  | nx env' st' =>
    rw [q] at hp
    exact fun w' σ' H' le hh hE' => ⟨w', env', st', hE', hh, PostS.anti le hp⟩
  | ret d st' => rw [q] at hp; exact hp
  | brk env' st' => rw [q] at hp; exact hp
  | cnt env' st' => rw [q] at hp; exact hp
  | exc c env' st' => rw [q] at hp; exact hp
  | bad => rw [q] at hp; exact hp
theorem r_spass : PS X (.Pass pos) (rdS κ sNil Wx) := ps_pass.wk fun E σ H h => by
  obtain ⟨w, env, st, hE, hH, hp⟩ := h
  exact hp w σ H (Wd.Le.refl w) hH hE
def sBrk : MS := fun env st => .brk env st
def sCnt : MS := fun env st => .cnt env st
theorem r_sbrk : PS X (.Break pos) (rdS κ sBrk Wx) := ps_break.wk fun E σ H h => by
  obtain ⟨w, env, st, hE, hH, hp⟩ := h
  exact hp w σ H (Wd.Le.refl w) hH hE
theorem r_scnt : PS X (.Continue pos) (rdS κ sCnt Wx) := ps_continue.wk fun E σ H h => by
  obtain ⟨w, env, st, hE, hH, hp⟩ := h
  exact hp w σ H (Wd.Le.refl w) hH hE
def sExp (m : Env' → M D) : MS := fun env => sbnd (m env) env fun _ st => .nx env st
theorem r_sexp (he : PE X e (rdE κ ma Wx)) (hs : swapsWith e none pos.line X.env = pure false) : PS X (.Expr e pos) (rdS κ (sExp ma) Wx) := (ps_expr he hs).wk fun E σ H h => by
  obtain ⟨w, env, st, hE, hH, hp⟩ := h
  obtain ⟨w0, env0, st0, a0, b0, c0⟩ := rd_ones hE hH hp
  refine ⟨w0, env0, st0, a0, b0, c0.imp fun d st' w' H' le hh q v rv => ?_⟩
  obtain ⟨w1, x, st1, _, _, hE1, hH1, hp1⟩ := q v rv
  exact hp1 w1 σ _ (Wd.Le.refl _) hH1 hE1
def sRet (m : Env' → M D) : MS := fun env => sbnd (m env) env fun d st => .ret d st
theorem r_sret (he : PE X e (rdE κ ma Wx)) : PS X (.Return (some e) pos) (rdS κ (sRet ma) Wx) := (ps_ret he).wk fun E σ H h => by
  obtain ⟨w, env, st, hE, hH, hp⟩ := h
  obtain ⟨w0, env0, st0, a0, b0, c0⟩ := rd_ones hE hH hp
  refine ⟨w0, env0, st0, a0, b0, c0.imp fun d st' w' H' le hh q v rv => ?_⟩
  obtain ⟨w1, x, st1, _, r1, hE1, hH1, hp1⟩ := q v rv
  exact hp1 w1 v _ (Wd.Le.refl _) hH1 r1
def sRetN : MS := fun _ st => .ret (.p .none) st
theorem r_sretn : PS X (.Return none pos) (rdS κ sRetN Wx) := ps_retN.wk fun E σ H h => by
  obtain ⟨w, env, st, hE, hH, hp⟩ := h
  exact hp w .non H (Wd.Le.refl w) hH (show Dq κ.K w.W .non .none from .non)
/-- if -/
def sIf (c : Env' → M Bool) (a b : MS) : MS := fun env => sbnd (c env) env fun k st => if k = true then a env st else b env st
theorem rd_onet {tc : Env' → M Bool} {f : Bool → Sto → RS} (hE : RelE κ w env σ) (hH : HoldK κ w st H) (h : PostS κ Wx E w (sbnd (tc env) env f st)) :
    rdT κ tc Wx σ H fun k H1 => ∃ w1 st1, w.Le w1 ∧ RelE κ w1 env σ ∧ HoldK κ w1 st1 H1 ∧ PostS κ Wx E w1 (f k st1) :=
  ⟨w, env, st, hE, hH, (PostS.bnd hE h).imp fun k st1 w1 H1 le hH1 hp => ⟨w1, st1, le, hE.mono le.toLc, hH1, hp⟩⟩
theorem r_sif {c : Expr} {sa sb : List Stmt} {tc : Env' → M Bool} (hc : PT X c (rdT κ tc Wx)) (ha : PSs X sa (rdS κ a Wx)) (hb : PSs X sb (rdS κ b Wx)) : PS X (.If c sa sb pos) (rdS κ (sIf tc a b) Wx) := (ps_if hc ha hb).wk fun E σ H h => by
  obtain ⟨w, env, st, hE, hH, hp⟩ := h
  obtain ⟨w0, env0, st0, a0, b0, c0⟩ := rd_onet hE hH hp
  refine ⟨w0, env0, st0, a0, b0, c0.imp fun k st' w' H' le hh q => ?_⟩
  obtain ⟨w1, st1, _, hE1, hH1, hp1⟩ := q
  cases k with
  | true => rw [if_pos rfl] at hp1; exact iteT ⟨w1, env, st1, hE1, hH1, hp1⟩
  | false => rw [if_neg Bool.false_ne_true] at hp1; exact iteF ⟨w1, env, st1, hE1, hH1, hp1⟩
/-- target = e -/
def sAsg (g : G) (m : Env' → M D) : MS := fun env => sbnd (m env) env fun d st => match gSet g d env with
  | some env' => .nx env' st
  | none => .bad
theorem rd_sasg {g : G} {E : Ends} {σ : L2.St} {H : Hp} (h : rdS κ (sAsg g ma) Wx E σ H) : rdE κ ma Wx σ H fun v H1 => rdG κ g v σ H1 E.nx := by
  obtain ⟨w, env, st, hE, hH, hp⟩ := h
  obtain ⟨w0, env0, st0, a0, b0, c0⟩ := rd_ones hE hH hp
  refine ⟨w0, env0, st0, a0, b0, c0.imp fun d st' w' H' le hh q v rv => ?_⟩
  obtain ⟨w1, x, st1, _, r1, hE1, hH1, hp1⟩ := q v rv
  cases q2 : gSet g x env with
  | none => rw [q2] at hp1; exact hp1.elim
  | some env' =>
    rw [q2] at hp1
    exact ⟨w1, env, st1, x, env', hE1, hH1, r1, q2, fun σ' hE' _ => hp1 w1 σ' _ (Wd.Le.refl _) hH1 hE'⟩
theorem r_sasg {g : G} {tg : Expr} (he : PE X e (rdE κ ma Wx)) (hg : PG X tg (rdG κ g)) (hs : swapsWithSole [tg] e pos.line X.env = pure false) (hw : swappedStores [tg] e X.env = pure none)
    (h1 : (assignEach [tg] X.env).map (·.2) = [assign tg X.env]) : PS X (.Assign [tg] e pos) (rdS κ (sAsg g ma) Wx) := (ps_asg he hg hs hw h1).wk fun E σ H h => rd_sasg h
theorem r_sset {i : Nat} {x : Str} {pos' : Pos} (hN : X.N.Nodup) (hi : X.N[i]? = some x) (hx : Loc X.env.scope x) (he : PE X e (rdE κ ma Wx)) (hs : swapsWith e (some (.Name x pos')) pos.line X.env = pure false) (hf : X.fn x = true ∨ X.env.scope.names.lookup x = some .local) :
    PS X (.Assign [.Name x pos'] e pos) (rdS κ (sAsg (.nm i) ma) Wx) := by
  refine (ps_set hN hi hx he hs hf).wk fun E σ H h => ?_
  have h' := rd_sasg h
  obtain ⟨w0, env0, st0, a0, b0, c0⟩ := h'
  refine ⟨w0, env0, st0, a0, b0, c0.imp fun d st' w' H' le hh q v rv => ?_⟩
  obtain ⟨w1, env1, st1, d1, env', hE, hH, r, e, q⟩ := q v rv
  unfold gSet at e
  split at e
  · rename_i hi'
    cases e
    exact q _ (hE.set hi' r) fun vs hv => wipe_set (hv i (by simp [gIx]))
  · cases e
/-- a, b = x, y -/
def sPar (is : List Nat) (ms : Env' → M (List D)) : MS := fun env => sbnd (ms env) env fun ds st => if ds.length = is.length ∧ (∀ i ∈ is, i < env.length) then .nx ((is.zip ds).foldl (fun e q => e.set q.1 (some q.2)) env) st else .bad
theorem r_spar2 {i j : Nat} {x y : Str} {c d : Expr} {ms : Env' → M (List D)} {px py pt : Pos} {kt k2 pt2} (hc : X.calm = true) (hN : X.N.Nodup) (hi : X.N[i]? = some x) (hj : X.N[j]? = some y) (hij : i ≠ j)
    (hx : X.env.scope.names.lookup x = some .local) (hy : X.env.scope.names.lookup y = some .local) (ha : PA X [c, d] (rdA κ ms Wx))
    (hw : swappedStores [.Tuple [.Name x px, .Name y py] kt pt] (.Tuple [c, d] k2 pt2) X.env = pure (some [x, y]))
    (hs : swapsWithSole [.Tuple [.Name x px, .Name y py] kt pt] (.Tuple [c, d] k2 pt2) pos.line X.env = pure false) :
    PS X (.Assign [.Tuple [.Name x px, .Name y py] kt pt] (.Tuple [c, d] k2 pt2) pos) (rdS κ (sPar [i, j] ms) Wx) := (ps_par hc hN hi hj hij hx hy ha hw hs).wk fun E σ H h => by
  obtain ⟨w, env, st, hE, hH, hp⟩ := h
  refine ⟨w, env, st, hE, hH, (PostS.bnd hE hp).imp fun ds st1 w1 H1 le hH1 hp1 vs rl => ?_⟩
  split at hp1
  · rename_i hc
    obtain ⟨hl, hlt⟩ := hc
    cases rl with
    | nil => cases hl
    | cons r1 r2 =>
      cases r2 with
      | nil => cases hl
      | cons r2 r3 =>
        cases r3 with
        | nil =>
          refine ⟨_, _, rfl, hp1 w1 _ _ (Wd.Le.refl _) hH1 ?_⟩
          have hE1 := hE.mono le.toLc
          exact (hE1.set (hlt i (by simp)) r1).set (by simpa using hlt j (by simp)) r2
        | cons _ _ => cases hl
  · exact hp1.elim
theorem r_spar3 {i j l : Nat} {x y z : Str} {c d f : Expr} {ms : Env' → M (List D)} {px py pz pt : Pos} {kt k2 pt2} (hc : X.calm = true) (hN : X.N.Nodup) (hi : X.N[i]? = some x) (hj : X.N[j]? = some y) (hl : X.N[l]? = some z) (hij : i ≠ j) (hil : i ≠ l) (hjl : j ≠ l)
    (hx : X.env.scope.names.lookup x = some .local) (hy : X.env.scope.names.lookup y = some .local) (hz : X.env.scope.names.lookup z = some .local) (ha : PA X [c, d, f] (rdA κ ms Wx))
    (hw : swappedStores [.Tuple [.Name x px, .Name y py, .Name z pz] kt pt] (.Tuple [c, d, f] k2 pt2) X.env = pure (some [x, y, z]))
    (hs : swapsWithSole [.Tuple [.Name x px, .Name y py, .Name z pz] kt pt] (.Tuple [c, d, f] k2 pt2) pos.line X.env = pure false) :
    PS X (.Assign [.Tuple [.Name x px, .Name y py, .Name z pz] kt pt] (.Tuple [c, d, f] k2 pt2) pos) (rdS κ (sPar [i, j, l] ms) Wx) := (ps_par3 hc hN hi hj hl hij hil hjl hx hy hz ha hw hs).wk fun E σ H h => by
  obtain ⟨w, env, st, hE, hH, hp⟩ := h
  refine ⟨w, env, st, hE, hH, (PostS.bnd hE hp).imp fun ds st1 w1 H1 le hH1 hp1 vs rl => ?_⟩
  split at hp1
  · rename_i hc
    obtain ⟨hl, hlt⟩ := hc
    cases rl with
    | nil => cases hl
    | cons r1 r2 =>
      cases r2 with
      | nil => cases hl
      | cons r2 r3 =>
        cases r3 with
        | nil => cases hl
        | cons r3 r4 =>
          cases r4 with
          | nil =>
            refine ⟨_, _, _, rfl, hp1 w1 _ _ (Wd.Le.refl _) hH1 ?_⟩
            have hE1 := hE.mono le.toLc
            exact ((hE1.set (hlt i (by simp)) r1).set (by simpa using hlt j (by simp)) r2).set (by simpa using hlt l (by simp)) r3
          | cons _ _ => cases hl
  · exact hp1.elim
/-- x op= e, of ints and the rest -/
def sAug (i : Nat) (g : Fn2) (m : Env' → M D) : MS := fun env => sbnd (bnd (mVar i env) fun x => bnd (m env) fun y => lft (g x y)) env fun d st => if i < env.length then .nx (env.set i (some d)) st else .bad
theorem r_saug {i : Nat} {x : Str} {op : Operator} {g : Fn2} {pos' : Pos} (hN : X.N.Nodup) (hi : X.N[i]? = some x) (hx : Loc X.env.scope x) (he : PE X e (rdE κ ma Wx)) (ho : PIp X op (rd2 κ g)) (hf : X.fn x = true ∨ X.env.scope.names.lookup x = some .local) :
    PS X (.AugAssign (.Name x pos') op e pos) (rdS κ (sAug i g ma) Wx) := (ps_aug hN hi hx he ho hf).wk fun E σ H h => by
  obtain ⟨w, env, st, hE, hH, hp⟩ := h
  have hp1 := PostS.bnd hE hp
  have hp2 := PostG.bnd hp1
  unfold mVar opt at hp2
  cases q : env[i]?.bind id with
  | none => rw [q] at hp2; exact hp2.elim
  | some d =>
    rw [q] at hp2
    have e : env[i]? = some (some d) := by
      cases z : env[i]? with
      | none => rw [z] at q; cases q
      | some o => rw [z] at q; have q' : o = some d := q; rw [q']
    obtain ⟨v, h1, h2⟩ := hE.2 i d e
    have hp3 := hp2 w H (Wd.Le.refl w) hH
    refine ⟨v, h1, w, env, st, hE, hH, (PostG.bnd hp3).imp fun y st1 w1 H1 le hH1 hp4 u ru => ?_⟩
    refine ⟨w1, d, y, st1, h2.mono le.toLc, ru, hH1, ?_⟩
    unfold lft at hp4
    cases q2 : g d y st1 with
    | none => rw [q2] at hp4; exact hp4.elim
    | some z =>
      obtain ⟨d', st'⟩ := z
      rw [q2] at hp4
      refine ⟨d', st', rfl, fun w' H' v' le' hh r => ?_⟩
      have hp5 := hp4 w' H' le' hh
      split at hp5
      · rename_i hlt
        exact hp5 w' _ H' (Wd.Le.refl _) hh ((hE.mono (le.trans le').toLc).set hlt r)
      · exact hp5.elim
/-- while -/
def sWhile (c : Env' → M Bool) (b : MS) : Nat → MS
  | 0 => fun _ _ => .bad
  | f + 1 => fun env => sbnd (c env) env fun k st => if k = true then (match b env st with
    | .nx env' st' => sWhile c b f env' st'
    | .cnt env' st' => sWhile c b f env' st'
    | .brk env' st' => .nx env' st'
    | r => r) else .nx env st
theorem r_swhile {c : Expr} {body : List Stmt} {tc : Env' → M Bool} {f : Nat} (hp : PassesOwn (model X.prog X.w) X.A X.env X.xe) (hc : PT X c (rdT κ tc Wx)) (hb : PSs X body (rdS κ b Wx)) : PS X (.While c body [] pos) (rdS κ (sWhile tc b f) Wx) := (ps_while hp hc hb).wk fun E σ H h => by
  obtain ⟨w, env, st, hE, hH, hp⟩ := h
  refine ⟨fun f σ H => ∃ w env st, RelE κ w env σ ∧ HoldK κ w st H ∧ PostS κ Wx E w (sWhile tc b f env st), ⟨f, w, env, st, hE, hH, hp⟩, ?_⟩
  rintro f σ H ⟨w, env, st, hE, hH, hp⟩
  cases f with
  | zero => exact hp.elim
  | succ f =>
    obtain ⟨w0, env0, st0, a0, b0, c0⟩ := rd_onet (tc := tc) hE hH hp
    refine ⟨w0, env0, st0, a0, b0, c0.imp fun k st' w' H' le hh q => ?_⟩
    obtain ⟨w1, st1, _, hE1, hH1, hp1⟩ := q
    cases k with
    | true =>
      rw [if_pos rfl] at hp1
      refine iteT ⟨fun σ H => ∃ w env st, RelE κ w env σ ∧ HoldK κ w st H ∧ PostS κ Wx E w (sWhile tc b f env st), fun σ' H' hN => ⟨f, Nat.lt_succ_self f, hN⟩, w1, env, st1, hE1, hH1, ?_⟩
      cases q2 : b env st1 with
      | nx env' st' => rw [q2] at hp1; exact fun w' σ' H' le hh hE' => ⟨w', env', st', hE', hh, PostS.anti le hp1⟩
      | cnt env' st' => rw [q2] at hp1; exact fun w' σ' H' le hh hE' => ⟨w', env', st', hE', hh, PostS.anti le hp1⟩
      | brk env' st' => rw [q2] at hp1; exact hp1
      | ret d st' => rw [q2] at hp1; exact hp1
      | exc c env' st' => rw [q2] at hp1; exact hp1
      | bad => rw [q2] at hp1; exact hp1
    | false =>
      rw [if_neg Bool.false_ne_true] at hp1
      exact iteF (hp1 w1 σ _ (Wd.Le.refl _) hH1 hE1)
/-- for -/
def forL (g : G) (b : MS) : List D → MS
  | [] => fun env st => .nx env st
  | x :: xs => fun env st => match gSet g x env with
    | none => .bad
    | some env1 => (match b env1 st with
      | .nx env' st' => forL g b xs env' st'
      | .cnt env' st' => forL g b xs env' st'
      | .brk env' st' => .nx env' st'
      | r => r)
def forS (src : Src) (g : G) (b : MS) : Nat → Nat → MS
  | 0, i => fun env st => match cont src st with
    | some ds => if ds.length ≤ i then .nx env st else .bad
    | none => .bad
  | f + 1, i => fun env st => match cont src st with
    | some ds => (match ds[i]? with
      | none => .nx env st
      | some x => (match gSet g x env with
        | none => .bad
        | some env1 => (match b env1 st with
          | .nx env' st' => forS src g b f (i + 1) env' st'
          | .cnt env' st' => forS src g b f (i + 1) env' st'
          | .brk env' st' => .nx env' st'
          | r => r)))
    | none => .bad
theorem forS_fix {xs : List D} {g : G} {b : MS} : ∀ (f i : Nat), f + i = xs.length → forS (.fix xs) g b f i = forL g b (xs.drop i)
  | 0, i, h => by
    funext env st
    have e : xs.drop i = [] := by rw [List.drop_eq_nil_iff]; omega
    rw [e]
    show (if xs.length ≤ i then RS.nx env st else .bad) = RS.nx env st
    rw [if_pos (by omega)]
  | f + 1, i, h => by
    funext env st
    have hi : i < xs.length := by omega
    rw [List.drop_eq_getElem_cons hi]
    have ih := forS_fix (xs := xs) (g := g) (b := b) f (i + 1) (by omega)
    show (match xs[i]? with
      | none => RS.nx env st
      | some x => (match gSet g x env with
        | none => .bad
        | some env1 => (match b env1 st with
          | .nx env' st' => forS (.fix xs) g b f (i + 1) env' st'
          | .cnt env' st' => forS (.fix xs) g b f (i + 1) env' st'
          | .brk env' st' => .nx env' st'
          | r => r))) = _
    rw [show xs[i]? = some xs[i] by simp [hi], ih]
    rfl
def sFor (mi : Env' → M Src) (g : G) (b : MS) : MS := fun env => sbnd (mi env) env fun src st => match srcLen src st with
  | some n => forS src g b n 0 env st
  | none => .bad
theorem r_sfor {tg iter : Expr} {body : List Stmt} {mi : Env' → M Src} {g : G} (hp : PassesOwn (model X.prog X.w) X.A X.env X.xe) (hc : X.calm = true) (hi : PI X tg iter (rdI κ mi Wx)) (hg : PG X tg (rdG κ g)) (hb : PSs X body (rdS κ b Wx))
    (hs : ∀ x, foldedSetIterable iter X.env x = pure x) : PS X (.For tg iter body [] pos) (rdS κ (sFor mi g b) Wx) := (ps_for hp hc hi hg hb hs).wk fun E σ H h => by
  obtain ⟨w, env, st, hE, hH, hp⟩ := h
  refine ⟨w, env, st, hE, hH, (PostS.bnd hE hp).imp fun src st1 w1 H1 le1 hH1 hp1 J sv => ?_⟩
  cases qn : srcLen src st1 with
  | none => rw [qn] at hp1; exact hp1.elim
  | some n =>
    rw [qn] at hp1
    refine ⟨fun i f σ H => ∃ w env st, w1.Lc w ∧ RelE κ w env σ ∧ HoldK κ w st H ∧ PostS κ Wx E w (forS src g b f i env st), ⟨n, w1, env, st1, Wd.Lc.refl _, hE.mono le1.toLc, hH1, hp1⟩, ?_⟩
    rintro i f σ H ⟨w, env, st, lc, hE, hH, hp⟩
    have done : PostS κ Wx E w (.nx env st) → E.nx σ H := fun q => q w σ H (Wd.Le.refl w) hH hE
    cases f with
    | zero =>
      have hp' : PostS κ Wx E w (match cont src st with
        | some ds => if ds.length ≤ i then .nx env st else .bad
        | none => .bad) := hp
      cases qc : cont src st with
      | none => rw [qc] at hp'; exact hp'.elim
      | some ls =>
        rw [qc] at hp'
        simp only at hp'
        split at hp'
        · rename_i hl
          exact .inl ⟨sv.stop i w st H ls lc (fun _ _ z => nomatch z) hH qc hl, done hp'⟩
        · exact hp'.elim
    | succ f =>
      have hp' : PostS κ Wx E w (match cont src st with
        | some ds => (match ds[i]? with
          | none => .nx env st
          | some x => (match gSet g x env with
            | none => .bad
            | some env1 => (match b env1 st with
              | .nx env' st' => forS src g b f (i + 1) env' st'
              | .cnt env' st' => forS src g b f (i + 1) env' st'
              | .brk env' st' => .nx env' st'
              | r => r)))
        | none => .bad) := hp
      cases qc : cont src st with
      | none => rw [qc] at hp'; exact hp'.elim
      | some ls =>
        rw [qc] at hp'
        simp only at hp'
        cases qi : ls[i]? with
        | none =>
          rw [qi] at hp'
          exact .inl ⟨sv.stop i w st H ls lc (fun _ _ z => nomatch z) hH qc (List.getElem?_eq_none_iff.mp qi), done hp'⟩
        | some x =>
          rw [qi] at hp'
          simp only at hp'
          have hli : i < ls.length := (List.getElem?_eq_some_iff.mp qi).1
          refine .inr ⟨sv.go i w st H ls lc (fun _ _ z => nomatch z) hH qc hli, fun σ' H' => ∃ w env st, w1.Lc w ∧ RelE κ w env σ' ∧ HoldK κ w st H' ∧ PostS κ Wx E w (forS src g b f (i + 1) env st), fun σ' H' hN => ⟨f, Nat.lt_succ_self f, hN⟩, fun v H' hy => ?_⟩
          obtain ⟨w2, le2, hH2, rx⟩ := sv.yld i w st H H' ls x v lc (fun _ _ z => nomatch z) hH qc qi hy
          cases qg : gSet g x env with
          | none => rw [qg] at hp'; exact hp'.elim
          | some env1 =>
            rw [qg] at hp'
            simp only at hp'
            refine ⟨w2, env, st, x, env1, hE.mono le2.toLc, hH2, rx, qg, fun σ3 hE3 _ => ⟨w2, env1, st, hE3, hH2, ?_⟩⟩
            have hp3 := PostS.anti le2 hp'
            have lc2 := lc.trans le2.toLc
            cases q2 : b env1 st with
            | nx env' st' => rw [q2] at hp3; exact fun w' σ' H' le hh hE' => ⟨w', env', st', lc2.trans le.toLc, hE', hh, PostS.anti le hp3⟩
            | cnt env' st' => rw [q2] at hp3; exact fun w' σ' H' le hh hE' => ⟨w', env', st', lc2.trans le.toLc, hE', hh, PostS.anti le hp3⟩
            | brk env' st' => rw [q2] at hp3; exact hp3
            | ret d st' => rw [q2] at hp3; exact hp3
            | exc c env' st' => rw [q2] at hp3; exact hp3
            | bad => rw [q2] at hp3; exact hp3
end
end Fw
set_option Elab.async false
set_option linter.all false
set_option maxRecDepth 100000
set_option maxHeartbeats 4000000
namespace Fw
open PySem PySem.Spec PyProof.Rows L2

/-! ## exceptions -/
structure ExcF (X : Cx) (x : Str) (C : Addr) : Prop where
  g : X.mg x = some (.ref C)
  k : PySem.W.keepIn X.K (.ref C) = true
  e : PySem.W.excIn X.K C He.veBase "ValueError.__new__" = true
  r : Raises X (.ref C)
section
variable {X : Cx} {κ : Kx} {Wx : WX} {ex : Nat → Addr} {C : Addr} {x : Str} {pos p pos' : Pos}
/-- X(), without arguments -/
theorem pmk_none (F : ExcF X x C) (hg : Gl X x) (hdb : (x == ("__debug__" : Str)) = false) : PMk X (.Call (.Name x p) [] [] pos) (fun _ H Q => Q (.ref C) none H) := by
  intro pins s σ H Q I h
  refine wpAny_Call_Name_kw (ld_glob I hg F.g ?_ hdb)
  refine PySem.W.callWith_K0 I.kIn F.k ?_
  obtain ⟨bm, N, nm, qn, bs, hdct, sn, sub, ab, col, dd, k0, k1, k2, k3, k5, mN, hC, hN, hni, T⟩ := exc_obj I.kIn F.e
  refine wpAny_call_exc_subT PySem.F.excBase_ValueError T hC hN hni (fun h' e hm => ?_) (by show 0 ≤ sizeLine; exact Nat.zero_le _)
  exact mk_of I hm F.r h (I.hok.gone hm.new)
def sRaise (c : Nat) : MS := fun env st => .exc c env st
theorem r_sraise {c : Nat} (hc : X.calm = true) (tk : Takes X Wx) (F : ExcF X x (ex c)) (hg : Gl X x) (hdb : (x == ("__debug__" : Str)) = false) : PS X (.Raise (some (.Call (.Name x p) [] [] pos')) none pos) (rdS (kxOf X ex) (sRaise c) Wx) :=
  (ps_raise hc tk (pmk_none F hg hdb)).wk fun E σ H h => by
    obtain ⟨w, env, st, hE, hH, hp⟩ := h
    exact hp w σ H (Wd.Le.refl w) hH hE
/-- try: .. except X: .. -/
def noexcS (m : MS) : MS := fun env st => match m env st with
  | .exc _ _ _ => .bad
  | r => r
def sTry (body : MS) (isa : Nat → Option Bool) (hd : MS) : MS := fun env st => match body env st with
  | .exc c env' st' => (match isa c with
    | some true => noexcS hd env' st'
    | some false => .exc c env' st'
    | none => .bad)
  | r => r
theorem PostS.noexc {E : Ends} {w : Wd} {m : MS} {env : Env'} {st : Sto} (h : PostS κ Wx E w (noexcS m env st)) : PostS κ FW E w (m env st) := by
  unfold noexcS at h
  cases q : m env st with
  | exc c e s => rw [q] at h; exact h.elim
  | nx e s => rw [q] at h; exact h
  | ret d s => rw [q] at h; exact h
  | brk e s => rw [q] at h; exact h
  | cnt e s => rw [q] at h; exact h
  | bad => rw [q] at h; exact h
theorem r_stry {body suite : List Stmt} {b0 : Stmt} {np hpos : Pos} {mb mh : MS} {isa : Nat → Option Bool} (hs : X.stack = X.env :: X.outer) (hf : X.env.frame = some X.env.locals) (hc : Names X x (.ref C)) (tk : Takes X Wx) (hx : ∀ c b, isa c = some b → PySem.W.exmOne X.K (.ref (ex c)) (.ref C) = some b)
    (hb : ∀ (W : WX) (pn : List (Addr × Obj)) (xe : Value → Shared → Prop), Takes (X.tr pn xe) W → PassesOwn (model X.prog X.w) X.A X.env xe → PSs (X.tr pn xe) body (rdS (kxOf X ex) mb W))
    (hsu : ∀ (a : Addr) (pn : List (Addr × Obj)), PSs (X.suite a pn) (b0 :: suite) (rdS (kxOf X ex) mh FW)) :
    PS X (.Try body [.ExceptHandler (some (.Name x np)) none (b0 :: suite) hpos] [] [] pos) (rdS (kxOf X ex) (sTry mb isa mh) Wx) :=
  (ps_try_only (tb := fun W => rdS (kxOf X ex) mb W) (ts := fun _ _ _ => rdS (kxOf X ex) mh FW) hs hf hc tk hb (fun a oe cls d pn _ _ => hsu a _)).wk fun E σ H h => by
    obtain ⟨w, env, st, hE, hH, hp⟩ := h
    refine ⟨w, env, st, hE, hH, ?_⟩
    unfold sTry at hp
    cases q : mb env st with
    | exc c env' st' =>
      rw [q] at hp
      simp only at hp
      intro w' σ' H' le hh hE'
      cases qi : isa c with
      | none => rw [qi] at hp; exact hp.elim
      | some b =>
        rw [qi] at hp
        refine ⟨b, hx c b qi, fun hb a _ => ?_, fun hb => ?_⟩
        · subst hb
          exact ⟨w', env', st', hE', hh, PostS.noexc (PostS.anti le hp)⟩
        · subst hb
          exact hp w' σ' H' le hh hE'
    | nx e s => rw [q] at hp; exact hp
    | ret d s => rw [q] at hp; exact hp
    | brk e s => rw [q] at hp; exact hp
    | cnt e s => rw [q] at hp; exact hp
    | bad => rw [q] at hp; exact hp
end

/-! ## methods of mutable lists -/
section
variable {X : Cx} {κ : Kx} {Wx : WX} {ex : Nat → Addr} {σ : L2.St} {H : Hp} {mo ma mi me : Env' → M D} {ms : Env' → M (List D)} {o e i value : Expr} {es : List Expr} {pos apos cpos pos' : Pos}
def isLst (d : D) (st : Sto) : Bool := match d with
  | .loc n => (match st[n]? with
    | some (.lst _) => true
    | _ => false)
  | _ => false
/-- o.m(..): the receiver is looked at first -/
def mMth (mo : Env' → M D) (ms : Env' → M (List D)) (g : D → List D → Sto → Option (D × Sto)) : Env' → M D := fun env => bnd (mo env) fun o st => if isLst o st = true then bnd (ms env) (fun xs => lft (g o xs)) st else .bad
theorem isLst_ok {d : D} {w : Wd} {st : Sto} {v : V} (hH : HoldK κ w st H) (r : RelD κ.K w d v) (h : isLst d st = true) : tyV κ.K "list" v H := by
  unfold isLst at h
  split at h
  · rename_i n
    obtain ⟨a, rfl, ha⟩ := r
    split at h
    · rename_i ds q
      obtain ⟨o, ho, vs, rfl, rl⟩ := hH.obs n a _ ha q
      exact .inl ⟨rfl, vs, SqL.of ho⟩
    · cases h
  · cases h
/-- a method's reading -/
def rdM (κ : Kx) (g : D → List D → Sto → Option (D × Sto)) : V → List V → Hp → VK → Prop := fun v vs H Q => ∃ w x xs st, RelD κ.K w x v ∧ RelL κ.K w xs vs ∧ HoldK κ w st H ∧ Fin κ w (g x xs st) Q
theorem MtM.wk {id : String} {r r' : V → List V → Hp → VK → Prop} (h : MtM X id r) (q : ∀ v vs H Q, r' v vs H Q → r v vs H Q) : MtM X id r' := fun pins s σ H x vs v us Q I rx rv hw => h pins s σ H x vs v us Q I rx rv (q _ _ _ _ hw)
theorem r_mth {id : String} {name : Str} {g : D → List D → Sto → Option (D × Sto)} (pa : PlainAttrs "list") (slot : Slot "list" name id) (hty : typeOf (.builtin id) = pure (.type "method_descriptor")) (hm : MtM X id (rdM (kxOf X ex) g)) (ho : PE X o (rdE (kxOf X ex) mo Wx)) (ha : PA X (e :: es) (rdA (kxOf X ex) ms Wx))
    (hbase : attributeBase o name X.env (eval o X.env) = eval o X.env)
    (hfew : ((backTo cpos (starEach (e :: es) X.env)).all (fun x => !x.1) && (backToKw cpos (keywordEach [] X.env)).all (fun x => x.1.isSome)
      && decide ((e :: es).length + ([] : List Keyword).length + (if ([] : List Keyword).isEmpty then 0 else 1) < 30)) = true)
    (hline : (apos.endLine == cpos.line) = true) (hs : starEach (e :: es) X.env = (false, eval e X.env) :: starEach es X.env) (hplain : (backTo cpos (starEach es X.env)).any (·.1) = false) :
    PE X (.Call (.Attribute o name apos) (e :: es) [] cpos) (rdE (kxOf X ex) (mMth mo ms g) Wx) :=
  (pe_bm pa slot hty hm ho ha hbase hfew hline hs hplain).wk fun σ H Q h => by
    obtain ⟨w, env, st, hE, hH, hp⟩ := h
    obtain ⟨w0, env0, st0, a0, b0, c0⟩ := rd_one (f := fun o st => if isLst o st = true then bnd (ms env) (fun xs => lft (g o xs)) st else .bad) hE hH hp
    refine ⟨w0, env0, st0, a0, b0, c0.imp fun d st' w' H' le hh q v rv => ?_⟩
    obtain ⟨w1, x, st1, _, r1, hE1, hH1, hp1⟩ := q v rv
    split at hp1
    · rename_i hl
      exact ⟨isLst_ok (κ := kxOf X ex) hH1 r1 hl, w1, env, st1, hE1, hH1, (PostG.bnd hp1).imp fun xs st2 w2 H2 le2 hH2 hp2 vs rl => ⟨w2, x, xs, st2, r1.mono le2.toLc, rl, hH2, Fin.of hp2⟩⟩
    · exact hp1.elim
def popAtG : D → List D → Sto → Option (D × Sto) := fun o xs st => match o, xs with
  | .loc n, [.p (.int i)] => (match st[n]? with
    | some (.lst ds) => if 0 ≤ i ∧ ds.length ≤ 1000000 then (match ds[i.toNat]? with
      | some d => some (d, st.set n (.lst (ds.eraseIdx i.toNat)))
      | none => none) else none
    | _ => none)
  | _, _ => none
theorem RelL.erase {K : PySem.W.Frag} {w : Wd} : ∀ {ds : List D} {vs : List V} (k : Nat), RelL K w ds vs → RelL K w (ds.eraseIdx k) (vs.eraseIdx k)
  | _, _, _, .nil => .nil
  | _, _, 0, .cons a b => b
  | _, _, k + 1, .cons a b => .cons a (RelL.erase k b)
theorem RelL.set {K : PySem.W.Frag} {w : Wd} {d : D} {v : V} (r : RelD K w d v) : ∀ {ds : List D} {vs : List V} (k : Nat), RelL K w ds vs → RelL K w (ds.set k d) (vs.set k v)
  | _, _, _, .nil => .nil
  | _, _, 0, .cons a b => .cons r b
  | _, _, k + 1, .cons a b => .cons a (RelL.set r k b)
theorem wf_at {w : Wd} {st : Sto} {n : Nat} {b : Ob} (hH : HoldK κ w st H) (q : st[n]? = some b) : Wf1 n b := hH.wf n b q
theorem m_popAt : MtR X "list.pop" (rdM (kxOf X ex) popAtG) := by
  intro pins s σ H x vs v us Q I rx rv h
  obtain ⟨w, d, xs, st, r1, rl, hH, d', st', e, fin⟩ := h
  unfold popAtG at e
  split at e
  · rename_i n i
    split at e
    · rename_i ds q
      split at e
      · rename_i hi
        split at e
        · rename_i y qy
          cases e
          obtain ⟨a, rfl, ha⟩ := r1
          obtain ⟨o, ho, vs', rfl, rl'⟩ := hH.obs n a _ ha q
          cases rl with
          | cons r2 r3 =>
            cases r3
            have r2' : Dq X.K w.W _ (.int i) := r2
            have z := Dq.int_inv r2'
            subst z
            obtain ⟨u, hu, ru⟩ := rl'.get qy
            have hl : i.toNat < ds.length := (List.getElem?_eq_some_iff.mp qy).1
            have hl' : i.toNat < vs'.length := by rw [← rl'.length]; exact hl
            refine mt_popAt pins s σ H _ _ v us Q I rx rv ⟨a, vs', i, i.toNat, u, rfl, rfl, ho, by omega, by omega, ?_, hu, ?_⟩
            · exact seqIndex_of hi.1 (by omega)
            · have hw : Wf1 n (.lst (ds.eraseIdx i.toNat)) := fun j m => (wf_at hH q : Wf1 n (.lst ds)) j (List.mem_of_mem_eraseIdx m)
              exact fin w _ u (Wd.Le.refl w) (Hold.write hH ha ⟨_, rfl, RelL.erase i.toNat rl'⟩ hw) ru
        · cases e
      · cases e
    · cases e
  · cases e
def okIn (n : Nat) : D → Bool
  | .p _ => true
  | .loc j => decide (j < n)
def appendG : D → List D → Sto → Option (D × Sto) := fun o xs st => match o, xs with
  | .loc n, [x] => (match st[n]? with
    | some (.lst ds) => if ds.length ≤ 1000000 ∧ okIn n x = true then some (.p .none, st.set n (.lst (ds ++ [x]))) else none
    | _ => none)
  | _, _ => none
theorem m_append : MtR X "list.append" (rdM (kxOf X ex) appendG) := by
  intro pins s σ H x vs v us Q I rx rv h
  obtain ⟨w, d, xs, st, r1, rl, hH, d', st', e, fin⟩ := h
  unfold appendG at e
  split at e
  · rename_i n y
    split at e
    · rename_i ds q
      split at e
      · rename_i hi
        cases e
        obtain ⟨a, rfl, ha⟩ := r1
        obtain ⟨o, ho, vs', rfl, rl'⟩ := hH.obs n a _ ha q
        cases rl with
        | cons r2 r3 =>
          cases r3
          refine mt_append pins s σ H _ _ v us Q I rx rv ⟨a, vs', _, rfl, rfl, ho, by rw [← rl'.length, sizeLine_eq]; omega, ?_⟩
          have hw : Wf1 n (.lst (ds ++ [y])) := fun j m => by
            rcases List.mem_append.mp m with m | m
            · exact (wf_at hH q : Wf1 n (.lst ds)) j m
            · simp at m
              subst m
              exact of_decide_eq_true hi.2
          exact fin w _ .non (Wd.Le.refl w) (Hold.write hH ha ⟨_, rfl, RelL.app rl' (.cons r2 .nil)⟩ hw) .non
      · cases e
    · cases e
  · cases e

/-! ## o[i] = e -/
def setG : D → D → D → Sto → Option Sto := fun o i v st => match o, i with
  | .loc n, .p (.int k) => (match st[n]? with
    | some (.lst ds) => if okIn n v = true then (match ixN ds.length k with
        | some j => some (st.set n (.lst (ds.set j v)))
        | none => none) else none
    | _ => none)
  | _, _ => none
def sSetI (mo mi me : Env' → M D) : MS := fun env => sbnd (bnd (me env) fun v => bnd (mo env) fun o => bnd (mi env) fun i => fun st => match setG o i v st with
  | some st' => .ok () st'
  | none => .bad) env fun _ st => .nx env st
theorem r_sseti (he : PE X e (rdE (kxOf X ex) me Wx)) (ho : PE X o (rdE (kxOf X ex) mo Wx)) (hi : PE X i (rdE (kxOf X ex) mi Wx)) (hs : swapsWithSole [.Subscript o i pos'] e pos.line X.env = pure false) (hw : swappedStores [.Subscript o i pos'] e X.env = pure none)
    (h1 : (assignEach [.Subscript o i pos'] X.env).map (·.2) = [assign (.Subscript o i pos') X.env]) (ha : ∀ v, assign (.Subscript o i pos') X.env v = (do
      let ov ← holding [v] (eval o X.env)
      let iv ← holding [v, ov] (eval i X.env)
      standAt pos'
      holding [v, ov, iv] (setItem ov iv v)
      release [v, ov, iv] [])) : PS X (.Assign [.Subscript o i pos'] e pos) (rdS (kxOf X ex) (sSetI mo mi me) Wx) :=
  (ps_asg he (pg_sub ho hi set_list ha) hs hw h1).wk fun E σ H h => by
    obtain ⟨w, env, st, hE, hH, hp⟩ := h
    have hp1 := PostG.bnd (PostS.bnd hE hp)
    refine ⟨w, env, st, hE, hH, hp1.imp fun v st1 w1 H1 le1 hH1 hp2 vv rv => ?_⟩
    have hE1 := hE.mono le1.toLc
    refine ⟨w1, env, st1, hE1, hH1, (PostG.bnd hp2).imp fun ov st2 w2 H2 le2 hH2 hp3 vo ro => ?_⟩
    have hE2 := hE1.mono le2.toLc
    refine ⟨w2, env, st2, hE2, hH2, (PostG.bnd hp3).imp fun iv st3 w3 H3 le3 hH3 hp4 vi ri => ?_⟩
    have hE3 := hE2.mono le3.toLc
    have ro3 := ro.mono le3.toLc
    have rv3 := rv.mono (le2.trans le3).toLc
    cases q : setG ov iv v st3 with
    | none => rw [q] at hp4; exact hp4.elim
    | some st4 =>
      rw [q] at hp4
      simp only at hp4
      unfold setG at q
      split at q
      · rename_i n k
        split at q
        · rename_i ds qd
          split at q
          · rename_i hv
            split at q
            · rename_i j qj
              cases q
              obtain ⟨a, rfl, hla⟩ := ro3
              obtain ⟨ob, hob, vs', rfl, rl'⟩ := hH3.obs n a _ hla qd
              have ri' : Dq X.K w3.W vi (.int k) := ri
              have z := Dq.int_inv ri'
              subst z
              refine ⟨a, vs', k, j, rfl, rfl, hob, by rw [← rl'.length]; exact qj, ?_⟩
              have hw : Wf1 n (.lst (ds.set j v)) := fun j' m => by
                rcases List.mem_or_eq_of_mem_set m with m | m
                · exact (wf_at hH3 qd : Wf1 n (.lst ds)) j' m
                · subst m
                  exact of_decide_eq_true hv
              have hI : HoldK (kxOf X ex) w3 (st3.set n (.lst (ds.set j v))) (upd H3 a (.lst (vs'.set j vv))) := Hold.write hH3 hla ⟨_, rfl, RelL.set rv3 j rl'⟩ hw
              exact hp4 w3 _ (Wd.Le.refl w3) hI w3 σ _ (Wd.Le.refl w3) hI hE3
            · cases q
          · cases q
        · cases q
      · cases q
end
end Fw
set_option Elab.async false
set_option linter.all false
set_option maxRecDepth 100000
set_option maxHeartbeats 4000000
namespace Fw
open PySem PySem.Spec PyProof.Rows L2

/-! ## rows of ints in order, each once -/
def ltI : List Int → List Int → Bool
  | [], [] => false
  | [], _ :: _ => true
  | _ :: _, [] => false
  | a :: r, b :: q => decide (a < b) || (decide (a = b) && ltI r q)
def ins (x : List Int) : List (List Int) → List (List Int)
  | [] => [x]
  | y :: r => if ltI x y = true then x :: y :: r else if x = y then y :: r else y :: ins x r
def canon (xs : List (List Int)) : List (List Int) := xs.foldr ins []
theorem ltI_irr : ∀ a : List Int, ltI a a = false
  | [] => rfl
  | a :: r => by simp [ltI, ltI_irr r]
theorem ltI_trans : ∀ {a b c : List Int}, ltI a b = true → ltI b c = true → ltI a c = true
  | [], [], _, h, _ => by simp [ltI] at h
  | [], _ :: _, [], _, h => by simp [ltI] at h
  | [], _ :: _, _ :: _, _, _ => rfl
  | _ :: _, [], _, h, _ => by simp [ltI] at h
  | _ :: _, _ :: _, [], _, h => by simp [ltI] at h
  | a :: r, b :: q, c :: t, h, k => by
    simp only [ltI, Bool.or_eq_true, Bool.and_eq_true, decide_eq_true_eq] at h k ⊢
    rcases h with h | ⟨h, h2⟩ <;> rcases k with k | ⟨k, k2⟩
    · left; omega
    · left; omega
    · left; omega
    · exact .inr ⟨by omega, ltI_trans h2 k2⟩
theorem ltI_tri : ∀ {a b : List Int}, ltI a b = false → a ≠ b → ltI b a = true
  | [], [], _, h => absurd rfl h
  | [], _ :: _, h, _ => by simp [ltI] at h
  | _ :: _, [], _, _ => rfl
  | a :: r, b :: q, h, k => by
    simp only [ltI, Bool.or_eq_false_iff, Bool.and_eq_false_iff, decide_eq_false_iff_not] at h
    simp only [ltI, Bool.or_eq_true, Bool.and_eq_true, decide_eq_true_eq]
    obtain ⟨h1, h2⟩ := h
    by_cases e : a = b
    · subst e
      rcases h2 with h2 | h2
      · exact absurd rfl h2
      · exact .inr ⟨rfl, ltI_tri h2 fun z => k (by rw [z])⟩
    · left; omega
theorem mem_ins {x z : List Int} : ∀ {l : List (List Int)}, z ∈ ins x l ↔ z = x ∨ z ∈ l
  | [] => by simp [ins]
  | y :: r => by
    unfold ins
    split
    · simp
    · split
      · rename_i e
        subst e
        simp
      · rw [List.mem_cons, mem_ins, List.mem_cons]
        constructor
        · rintro (h | h | h)
          · exact .inr (.inl h)
          · exact .inl h
          · exact .inr (.inr h)
        · rintro (h | h | h)
          · exact .inr (.inl h)
          · exact .inl h
          · exact .inr (.inr h)
theorem mem_canon {z : List Int} : ∀ {l : List (List Int)}, z ∈ canon l ↔ z ∈ l
  | [] => by simp [canon]
  | y :: r => by
    show z ∈ ins y (canon r) ↔ _
    rw [mem_ins, mem_canon, List.mem_cons]
abbrev Asc (l : List (List Int)) : Prop := l.Pairwise fun a b => ltI a b = true
theorem asc_ins {x : List Int} : ∀ {l : List (List Int)}, Asc l → Asc (ins x l)
  | [], _ => List.pairwise_singleton _ _
  | y :: r, h => by
    obtain ⟨h1, h2⟩ := List.pairwise_cons.mp h
    unfold ins
    split
    · rename_i hx
      refine List.pairwise_cons.mpr ⟨fun z hz => ?_, h⟩
      rcases List.mem_cons.mp hz with e | hz
      · rw [e]; exact hx
      · exact ltI_trans hx (h1 z hz)
    · split
      · exact h
      · rename_i hx hne
        refine List.pairwise_cons.mpr ⟨fun z hz => ?_, asc_ins h2⟩
        rcases mem_ins.mp hz with e | hz
        · rw [e]; exact ltI_tri (by simpa using hx) hne
        · exact h1 z hz
theorem asc_canon : ∀ l : List (List Int), Asc (canon l)
  | [] => .nil
  | y :: r => asc_ins (asc_canon r)
theorem asc_uniq : ∀ {l m : List (List Int)}, Asc l → Asc m → (∀ z, z ∈ l ↔ z ∈ m) → l = m
  | [], [], _, _, _ => rfl
  | [], b :: m, _, _, h => absurd ((h b).mpr (by simp)) (by simp)
  | a :: l, [], _, _, h => absurd ((h a).mp (by simp)) (by simp)
  | a :: l, b :: m, h1, h2, h => by
    obtain ⟨a1, a2⟩ := List.pairwise_cons.mp h1
    obtain ⟨b1, b2⟩ := List.pairwise_cons.mp h2
    have e : a = b := by
      rcases List.mem_cons.mp ((h a).mp (by simp)) with e | ha
      · exact e
      · rcases List.mem_cons.mp ((h b).mpr (by simp)) with e | hb
        · exact e.symm
        · have q := ltI_trans (a1 b hb) (b1 a ha)
          rw [ltI_irr] at q
          cases q
    subst e
    have hm : ∀ z, z ∈ l ↔ z ∈ m := fun z => by
      constructor
      · intro hz
        rcases List.mem_cons.mp ((h z).mp (List.mem_cons_of_mem _ hz)) with e | q
        · subst e
          have q := a1 z hz
          rw [ltI_irr] at q
          cases q
        · exact q
      · intro hz
        rcases List.mem_cons.mp ((h z).mpr (List.mem_cons_of_mem _ hz)) with e | q
        · subst e
          have q := b1 z hz
          rw [ltI_irr] at q
          cases q
        · exact q
    rw [asc_uniq a2 b2 hm]
theorem code_ltI {B : Int} : ∀ {a b : List Int}, a.length = b.length → TS.Bd B a → TS.Bd B b → ltI a b = true → TS.code B a < TS.code B b
  | [], [], _, _, _, h => by simp [ltI] at h
  | [], _ :: _, h, _, _, _ => by simp at h
  | _ :: _, [], h, _, _, _ => by simp at h
  | a :: r, b :: q, hl, h1, h2, h => by
    have hl' : r.length = q.length := by simpa using hl
    simp only [ltI, Bool.or_eq_true, Bool.and_eq_true, decide_eq_true_eq] at h
    rcases h with h | ⟨h, k⟩
    · exact TS.code_lt hl' h1.tail h2.tail h
    · subst h
      exact (TS.code_same hl').mpr (code_ltI hl' h1.tail h2.tail k)
theorem code_canon {B : Int} {d : Nat} {L xs : List (List Int)} (hp : L.Pairwise fun a b => TS.code B a ≤ TS.code B b) (hn : L.Nodup) (hb : ∀ k ∈ L, k.length = d ∧ TS.Bd B k) (hm : ∀ z, z ∈ L ↔ z ∈ xs) : L = canon xs := by
  refine asc_uniq ?_ (asc_canon xs) fun z => (hm z).trans mem_canon.symm
  have q := hp.and hn
  refine List.Pairwise.imp_of_mem (fun {a b} ha hb' ⟨h1, h2⟩ => ?_) q
  cases e : ltI a b with
  | true => rfl
  | false =>
    have z := code_ltI (B := B) (by rw [(hb b hb').1, (hb a ha).1]) (hb b hb').2 (hb a ha).2 (ltI_tri e h2)
    omega
/-- rows of ints among the data -/
def tupI (k : List Int) : PyData := .tuple (k.map .int)
def asTI : PyData → Option (List Int)
  | .tuple xs => intsOf xs
  | _ => none
theorem asTI_eq {x : PyData} {k : List Int} (h : asTI x = some k) : x = tupI k := by
  unfold asTI at h
  split at h
  · rw [intsOf_eq h] <;> rfl
  · cases h
theorem asTI_tupI (k : List Int) : asTI (tupI k) = some k := intsOf_map k
def tis : List PyData → Option (List (List Int))
  | [] => some []
  | x :: r => match asTI x, tis r with
    | some k, some ks => some (k :: ks)
    | _, _ => none
theorem tis_eq : ∀ {xs : List PyData} {ks : List (List Int)}, tis xs = some ks → xs = ks.map tupI
  | [], ks, h => by cases h; rfl
  | x :: r, ks, h => by
    unfold tis at h
    split at h
    · rename_i k ks' h1 h2
      cases h
      rw [List.map_cons, asTI_eq h1, tis_eq h2]
    · cases h
theorem tis_map : ∀ ks : List (List Int), tis (ks.map tupI) = some ks
  | [] => rfl
  | k :: r => by
    rw [List.map_cons]
    unfold tis
    rw [asTI_tupI, tis_map r]
def okK (ks : List (List Int)) : Bool := decide (ks.length < 64) && (match ks with
  | [] => true
  | k0 :: _ => decide (1 ≤ k0.length) && ks.all fun k => decide (k.length = k0.length) && k.all fun i => decide (0 ≤ i))
theorem bd_ex : ∀ l : List Int, ∃ B : Int, ∀ m ∈ l, m < B
  | [] => ⟨0, fun m h => nomatch h⟩
  | x :: r => by
    obtain ⟨B, h⟩ := bd_ex r
    refine ⟨max B (x + 1), fun m hm => ?_⟩
    rcases List.mem_cons.mp hm with e | hm
    · subst e; omega
    · have := h m hm; omega
theorem okK_ok {ks : List (List Int)} (h : okK ks = true) : ks.length < 64 ∧ ∃ (d : Nat) (B : Int), 1 ≤ d ∧ ∀ k ∈ ks, k.length = d ∧ TS.Bd B k := by
  unfold okK at h
  rw [Bool.and_eq_true] at h
  refine ⟨of_decide_eq_true h.1, ?_⟩
  have h2 := h.2
  split at h2
  · exact ⟨1, 0, Nat.le_refl _, fun k hk => nomatch hk⟩
  · rename_i k0 r
    rw [Bool.and_eq_true, List.all_eq_true] at h2
    obtain ⟨B, hB⟩ := bd_ex (k0 :: r).flatten
    refine ⟨k0.length, B, of_decide_eq_true h2.1, fun k hk => ?_⟩
    have q := h2.2 k hk
    rw [Bool.and_eq_true, List.all_eq_true] at q
    exact ⟨of_decide_eq_true q.1, fun m hm => ⟨of_decide_eq_true (q.2 m hm), hB m (List.mem_flatten.mpr ⟨k, hk, hm⟩)⟩⟩
end Fw
set_option Elab.async false
set_option linter.all false
set_option maxRecDepth 100000
set_option maxHeartbeats 4000000
namespace Fw
open PySem PySem.Spec PyProof.Rows L2

/-! ## rows of ints as values -/
/-- no tuple of ints, but the empty one, stands among the text's own objects -/
def NoTup (K : PySem.W.Frag) : Prop := ∀ (a : Addr) (o : Obj) (its : Array Value) (n : Nat) (k : List Int), K.lookup a = some o → o.cls = .type "tuple" → o.data = .seq its n → Vals (k.map V.int) its.toList → k = []
theorem ints_isIv : ∀ {k : List Int} {us : List Value}, Vals (k.map V.int) us → us.all isIv = true
  | [], _, .nil => rfl
  | i :: k, _, .cons r t => by
    obtain ⟨tk, rfl⟩ := r
    rw [List.all_cons]
    exact ints_isIv t
theorem noTup_strip (K : PySem.W.Frag) : NoTup (strip K) := fun a o its n k e hc hd hv => by
  have q := (strip_sub e).2
  unfold isIT at q
  rw [hd] at q
  simp only [ints_isIv hv, Bool.and_true, Bool.not_eq_false'] at q
  cases k with
  | nil => rfl
  | cons i r =>
    have := hv.length
    rw [List.isEmpty_iff.mp q] at this
    simp at this
section
variable {X : Cx} {κ : Kx} {w : Wd} {st : Sto} {H : Hp} {ex : Nat → Addr}
theorem trk (hH : HoldK κ w st H) {a : Addr} {k : List Int} (hk : k ≠ []) (s : SqT (strip κ.K) w.W a (k.map V.int)) : w.W a = some (.tup (k.map V.int)) := by
  rcases s with (s | ⟨o, s⟩) | ⟨o, its, n, h1, h2, h3, _, h4⟩
  · exact s
  · exact (hH.imm a _ s).2.elim
  · exact absurd (noTup_strip κ.K a o its n k h1 h2 h3 h4) hk
theorem rows_of {K : PySem.W.Frag} {W : Hp} : ∀ {ks : List (List Int)} {vs : List V}, DqAll K W vs (ks.map tupI) → ∃ L : List (Addr × List Int), vs = L.map (fun p => V.ref p.1) ∧ L.map (·.2) = ks ∧ ∀ p ∈ L, SqT (strip K) W p.1 (p.2.map V.int)
  | [], _, r => by cases r; exact ⟨[], rfl, rfl, fun p h => nomatch h⟩
  | k :: ks, _, r => by
    cases r with
    | cons a b =>
      obtain ⟨L, e1, e2, h⟩ := rows_of b
      obtain ⟨c, us, e3, s, d⟩ := Dq.tup_invS a
      have e4 := Dq.ints d
      subst e4
      refine ⟨(c, k) :: L, by rw [e1, e3]; rfl, by rw [List.map_cons, e2], fun p hp => ?_⟩
      rcases List.mem_cons.mp hp with z | hp
      · rw [z]; exact s
      · exact h p hp
theorem rows_to {K : PySem.W.Frag} {W : Hp} : ∀ {L : List (Addr × List Int)}, (∀ p ∈ L, SqT (strip K) W p.1 (p.2.map V.int)) → DqAll K W (L.map fun p => V.ref p.1) ((L.map (·.2)).map tupI)
  | [], _ => .nil
  | p :: r, h => .cons (.tup (h p List.mem_cons_self) (ints_dq p.2)) (rows_to fun q hq => h q (List.mem_cons_of_mem _ hq))

/-! ## sorted(d), d a dict with rows of ints as keys -/
def sortedKeys (ks : List (List Int)) : List (List Int) := canon ks
/-- the keys, if they are rows of ints -/
def intsK : List Key → Option (List Int)
  | [] => some []
  | .inl i :: r => (intsK r).map (i :: ·)
  | .inr _ :: _ => none
theorem intsK_eq : ∀ {k : List Key} {ns : List Int}, intsK k = some ns → k = ns.map Sum.inl
  | [], _, h => by cases h; rfl
  | .inl i :: r, ns, h => by
    unfold intsK at h
    cases q : intsK r with
    | none => rw [q] at h; cases h
    | some ms =>
      rw [q] at h
      cases h
      rw [List.map_cons, intsK_eq q]
  | .inr _ :: _, _, h => by cases h
theorem intsK_map : ∀ ns : List Int, intsK (ns.map Sum.inl) = some ns
  | [] => rfl
  | i :: r => by
    rw [List.map_cons]
    unfold intsK
    rw [intsK_map r]
    rfl
def dKeys : List (List Key × PyData) → Option (List (List Int))
  | [] => some []
  | q :: r => match intsK q.1, dKeys r with
    | some k, some ks => some (k :: ks)
    | _, _ => none
theorem dKeys_eq : ∀ {l : List (List Key × PyData)} {ks : List (List Int)}, dKeys l = some ks → l.map (·.1) = ks.map fun k => k.map Sum.inl
  | [], _, h => by cases h; rfl
  | q :: r, ks, h => by
    unfold dKeys at h
    split at h
    · rename_i k ks' h1 h2
      cases h
      rw [List.map_cons, List.map_cons, intsK_eq h1, dKeys_eq h2]
    · cases h
theorem kV_ints (k : List Int) : (k.map Sum.inl : List Key).map kV = k.map V.int := by
  rw [List.map_map]
  rfl
theorem kt_list {H : Hp} {kvs : List (List Key × V)} {xs : List (List Key × Addr × Value)} (r : KT H kvs xs) : ∀ {ks : List (List Int)}, kvs.map (·.1) = ks.map (fun k => k.map Sum.inl) → ∃ L : List (Addr × List Int), xs.map (fun x => x.2.1) = L.map (·.1) ∧ L.map (·.2) = ks ∧ ∀ p ∈ L, H p.1 = some (.tup (p.2.map V.int)) := by
  induction r with
  | nil =>
    intro ks h
    cases ks with
    | nil => exact ⟨[], rfl, rfl, fun p h => nomatch h⟩
    | cons _ _ => cases h
  | @cons p q ps qs h t ih =>
    intro ks e
    cases ks with
    | nil => cases e
    | cons k ks =>
      rw [List.map_cons, List.map_cons] at e
      injection e with e1 e2
      obtain ⟨L, h1, h2, h3⟩ := ih e2
      refine ⟨(q.2.1, k) :: L, by rw [List.map_cons, h1, List.map_cons], by rw [List.map_cons, h2], fun z hz => ?_⟩
      rcases List.mem_cons.mp hz with e3 | hz
      · have := h.2.1
        rw [e1, kV_ints] at this
        rw [e3]; exact this
      · exact h3 z hz
/-- sorted(d): the rows in order -/
def rSortD : List V → Hp → VK → Prop := fun xs H Q => ∃ (a : Addr) (kvs : List (List Key × V)) (ks : List (List Int)), xs = [V.ref a] ∧ H a = some (.dT kvs) ∧ kvs.map (·.1) = ks.map (fun k => k.map Sum.inl) ∧ okK ks = true ∧
  ∀ (L : List (Addr × List Int)) (p : Addr), (∀ q ∈ L, H q.1 = some (.tup (q.2.map V.int))) → L.map (·.2) = canon ks → H p = none → Q (.ref p) (upd H p (.lst (L.map fun q => V.ref q.1)))
theorem kt_keys {H : Hp} {kvs : List (List Key × V)} {xs : List (List Key × Addr × Value)} (r : KT H kvs xs) : xs.map (·.1) = kvs.map (·.1) := by
  induction r with
  | nil => rfl
  | cons h t ih => rw [List.map_cons, List.map_cons, h.1, ih]
theorem cr_sortD (hc : X.calm = true) : CallR X (.builtin "sorted") rSortD := by
  intro pins s σ H xs us Q I r h
  obtain ⟨d, kvs, ks, rfl, hd, hks, hok, q⟩ := h
  obtain ⟨u, rfl, rx⟩ := r.one
  cases rx
  obtain ⟨z, hs, xs, pr, o, es, ep, ho, hx, hdt, he, hn⟩ := (show ObjOk X.prog X.w H s.heap d (.dT kvs) from I.hok d _ hd)
  have l1 : es.size = xs.length := size_of_entries he
  have l2 : kvs.length = xs.length := Paired.length pr
  obtain ⟨L, hL1, hL2, hL3⟩ := kt_list pr hks
  obtain ⟨h64, dd, B, hd1, hB⟩ := okK_ok hok
  have lL : L.length = ks.length := by rw [← hL2, List.length_map]
  have lx : xs.length = ks.length := by
    have := congrArg List.length hL1
    rw [List.length_map, List.length_map] at this
    omega
  have hnd : (L.map (·.2)).Nodup := by
    have e2 : (kvs.map (·.1)).Nodup := by rw [← kt_keys pr]; exact hn
    rw [hks] at e2
    rw [hL2]
    exact nodup_of_map e2
  refine Calls.call_function_entry PyProof.Rows.kind_sorted PyProof.Rows.plain_sorted PyProof.Rows.entry_sorted (PyProof.Rows.args_sorted1 _) ?_
  unfold Builtin.«sorted»
  refine wpAny_bind (m := checkCount "sorted" 1 1 _) (wpAny_pure ?_)
  refine wpAny_bind (PySem.W.kdu_collect (A := X.A.in1) (kdl_raw hs hx hdt) (I.ok.hd hc) ho (by rw [sizeLine_eq]; omega) fun h' tk acc kp it => ?_)
  have ea : acc.toList = L.map fun p => Value.ref p.1 := by
    have e1 : acc.toList = xs.map fun x => Value.ref x.2.1 := by
      apply List.ext_getElem?
      intro j
      rw [List.getElem?_map]
      have hl : acc.toList.length = xs.length := by rw [Array.length_toList, it.1]; exact l1
      cases hj : acc.toList[j]? with
      | none =>
        have h1 := List.getElem?_eq_none_iff.mp hj
        rw [List.getElem?_eq_none (by omega)]
        rfl
      | some v =>
        obtain ⟨en, hen, hv⟩ := it.2 j v (by rw [← Array.getElem?_toList]; exact hj)
        have qe := entry_at he j
        rw [hen] at qe
        cases hb : xs[j]? with
        | none =>
          rw [hb] at qe
          exact nomatch (show some en = none from qe)
        | some b =>
          rw [hb] at qe
          have e2 : en = entryOfKey (tupleKind (mixKind X.prog X.w)) b := Option.some.inj qe
          rw [hv, e2]
          rfl
    have e2 : (xs.map fun x => Value.ref x.2.1) = (xs.map fun x => x.2.1).map Value.ref := by rw [List.map_map]; rfl
    rw [e1, e2, hL1, List.map_map]
    rfl
  have I1 : Inv X pins σ H { s with heap := h', toks := tk } := I.kept kp
  have hal : acc.toList.length = L.length := by rw [ea, List.length_map]
  refine wpAny_bind (wpAny_newList ?_ (by rw [hal, sizeLine_eq]; omega))
  have hoL : (h'.push (seqObj "list" acc.toList.toArray 0)).get? h'.objs.size = some (seqObj "list" acc.toList.toArray 0) := Heap.get?_push_size _ rfl
  have ti : ∀ p ∈ L, TS.TupInts (h'.push (seqObj "list" acc.toList.toArray 0)) (.ref p.1) p.2 := fun p hp =>
    (tupI_raw I1 (SqT.of (hL3 p hp))).keeps fun b ob e _ => Heap.get?_push_of_some _ e
  have tsok : TS.TupsOk (h'.push (seqObj "list" acc.toList.toArray 0)) dd B acc.toList := fun v hv => by
    rw [ea] at hv
    obtain ⟨p, hp, rfl⟩ := List.mem_map.mp hv
    have hk : p.2 ∈ ks := by rw [← hL2]; exact List.mem_map.mpr ⟨p, hp, rfl⟩
    exact ⟨p.2, ti p hp, (hB _ hk).1, (hB _ hk).2⟩
  show wpAny _ _ _ _ _ { s with heap := h'.push (seqObj "list" acc.toList.toArray 0), toks := tk }
  refine wpAny_bind (wpAny_holding (TS.call_sort_tups (s := { s with heap := h'.push (seqObj "list" acc.toList.toArray 0), toks := tk }) hoL (by rw [hal]; omega) hd1 tsok fun out o1 o2 => ?_))
  obtain ⟨L', eL', pL'⟩ : ∃ L' : List (Addr × List Int), out.toList = L'.map (fun p => Value.ref p.1) ∧ L'.Perm L := by
    have hp : out.toList.Perm (L.map fun p => Value.ref p.1) := by rw [ea] at o1; exact o1
    have inj : ∀ x ∈ L, ∀ y ∈ L, Value.ref x.1 = Value.ref y.1 → x = y := fun x hx y hy e => by
      have e1 : x.1 = y.1 := by injection e
      have a1 := (ti x hx).ints
      have a2 := (ti y hy).ints
      rw [e1] at a1
      exact Prod.ext e1 (a1.symm.trans a2)
    clear o2
    generalize out.toList = l at hp
    clear ea hal hoL ti tsok lL lx hL1 hL2 hL3 hnd q
    induction l generalizing L with
    | nil =>
      have := hp.length_eq
      have e : L = [] := List.length_eq_zero_iff.mp (by simpa using this.symm)
      subst e
      exact ⟨[], rfl, .refl _⟩
    | cons v r ih =>
      obtain ⟨x, hx, rfl⟩ := List.mem_map.mp (hp.mem_iff.mp List.mem_cons_self)
      have pe : L.Perm (x :: L.erase x) := List.perm_cons_erase hx
      have hp2 : r.Perm ((L.erase x).map fun p => Value.ref p.1) := by
        have := hp.trans (pe.map _)
        exact List.Perm.cons_inv this
      obtain ⟨L', e1, e2⟩ := ih (L := L.erase x) (fun a ha b hb e => inj a (List.mem_of_mem_erase ha) b (List.mem_of_mem_erase hb) e) hp2
      exact ⟨x :: L', by rw [e1, List.map_cons], (e2.cons x).trans pe.symm⟩
  obtain ⟨c, hc2⟩ := PyProof.Rows.sortedHeap_at (vs := acc.toList) (out := out) hoL
  have pw : (L'.map (·.2)).Pairwise fun a b => TS.code B a ≤ TS.code B b := by
    rw [eL'] at o2
    refine List.pairwise_map.mpr (List.Pairwise.imp_of_mem (fun {q r} hq hr hle => ?_) (List.pairwise_map.mp o2))
    have f1 := (ti q (pL'.mem_iff.mp hq)).ints
    have f2 := (ti r (pL'.mem_iff.mp hr)).ints
    rw [← f1, ← f2]
    exact hle
  have em : L'.map (·.2) = canon ks := by
    have pm : (L'.map (·.2)).Perm ks := by rw [← hL2]; exact pL'.map _
    exact code_canon pw (pm.nodup_iff.mpr (by rw [← hL2]; exact hnd)) (fun k hk => hB k (pm.mem_iff.mp hk)) fun z => pm.mem_iff
  have hlen : (L'.map fun q => V.ref q.1).length ≤ sizeLine := by rw [List.length_map, pL'.length_eq, sizeLine_eq]; omega
  refine wpAny_pure ⟨_, rfl, .ref h'.objs.size, upd H h'.objs.size (.lst (L'.map fun q => V.ref q.1)), I1.laid (t' := tk) (fun b u e => ?_) (Nat.le_refl _)
    (show ObjOk X.prog X.w _ _ _ (.lst (L'.map fun q => V.ref q.1)) from ⟨hlen, out.toList, c, by rw [eL']; exact vals_of_refs L', by rw [Array.toArray_toList]; exact hc2⟩), rfl, q L' _ (fun p hp => hL3 p (pL'.mem_iff.mp hp)) em (I1.hok.fresh (Nat.le_refl _))⟩
  have hb : b < h'.objs.size := Heap.lt_size e
  rw [PyProof.Rows.sortedHeap_old (Nat.ne_of_lt hb) (by rw [size_push']; exact Nat.lt_succ_of_lt hb)]
  exact Heap.get?_push_of_some _ e
end
end Fw
set_option Elab.async false
set_option linter.all false
set_option maxRecDepth 100000
set_option maxHeartbeats 4000000
namespace Fw
open PySem PySem.Spec PyProof.Rows L2
section
variable {X : Cx} {κ : Kx} {w : Wd} {st : Sto} {H : Hp} {ex : Nat → Addr}
/-! ## dict(pairs) -/
abbrev PRow : Type := Addr × (Addr × List Int) × V
def keyI (k : List Int) : List Key := k.map Sum.inl
def mergeT {α : Type} (f : List (List Key × α) → List Key → α → List (List Key × α)) (kvs : List (List Key × α)) : List (List Key × α) := kvs.foldl (fun acc q => f acc q.1 q.2) []
def rDictT (K : PySem.W.Frag) : List V → Hp → VK → Prop := fun xs H Q => ∃ (a : Addr) (R : List PRow), xs = [V.ref a] ∧ SqL K H a (R.map fun r => V.ref r.1) ∧ (∀ r ∈ R, SqT K H r.1 [V.ref r.2.1.1, r.2.2] ∧ H r.2.1.1 = some (.tup (r.2.1.2.map V.int))) ∧
  ∀ p, H p = none → Q (.ref p) (upd H p (.dT (mergeT putK (R.map fun r => (keyI r.2.1.2, r.2.2)))))
theorem pair_vals {pins : List (Addr × Obj)} {σ : L2.St} {s : Shared} (I : Inv X pins σ H s) : ∀ {R : List PRow}, (∀ r ∈ R, SqT X.K H r.1 [V.ref r.2.1.1, r.2.2] ∧ H r.2.1.1 = some (.tup (r.2.1.2.map V.int))) →
    ∃ Z : List (PRow × Value), Z.map (·.1) = R ∧ ∀ z ∈ Z, RelV z.1.2.2 z.2 ∧ s.heap.IsTuple z.1.1 #[Value.ref z.1.2.1.1, z.2] ∧ H z.1.2.1.1 = some (.tup (z.1.2.1.2.map V.int))
  | [], _ => ⟨[], rfl, fun z h => nomatch h⟩
  | r :: R, h => by
    obtain ⟨Z, e, hz⟩ := pair_vals I (R := R) fun q hq => h q (List.mem_cons_of_mem _ hq)
    obtain ⟨h1, h2⟩ := h r List.mem_cons_self
    obtain ⟨its, rv, ht, _⟩ := I.tuple h1
    obtain ⟨u, y, ei, ru, ry⟩ := vals2 rv
    subst ei
    cases ru
    refine ⟨(r, y) :: Z, by rw [List.map_cons, e], fun z hm => ?_⟩
    rcases List.mem_cons.mp hm with q | hm
    · rw [q]; exact ⟨ry, ht, h2⟩
    · exact hz z hm
theorem kt_merge {H : Hp} : ∀ {Z : List (PRow × Value)} {acc : List (List Key × V)} {xs : List (List Key × Addr × Value)}, (∀ z ∈ Z, RelV z.1.2.2 z.2 ∧ H z.1.2.1.1 = some (.tup (z.1.2.1.2.map V.int))) → KT H acc xs →
    KT H ((Z.map fun z => (keyI z.1.2.1.2, z.1.2.2)).foldl (fun acc q => putK acc q.1 q.2) acc) (storedAllH xs (Z.map fun z => (keyI z.1.2.1.2, z.1.2.1.1, z.2)))
  | [], _, _, _, r => r
  | z :: Z, acc, xs, h, r => by
    obtain ⟨h1, h2⟩ := h z List.mem_cons_self
    exact kt_merge (Z := Z) (fun q hq => h q (List.mem_cons_of_mem _ hq)) (r.put (keyI z.1.2.1.2) (by unfold keyI; rw [kV_ints]; exact h2) h1)
theorem length_merge {α : Type} {f : List (List Key × α) → List Key → α → List (List Key × α)} (hf : ∀ l k v, (f l k v).length ≤ l.length + 1) : ∀ (kvs acc : List (List Key × α)), (kvs.foldl (fun acc q => f acc q.1 q.2) acc).length ≤ acc.length + kvs.length
  | [], acc => by simp
  | q :: r, acc => by
    have h1 := length_merge hf r (f acc q.1 q.2)
    have h2 := hf acc q.1 q.2
    simp only [List.foldl_cons, List.length_cons]
    omega
theorem cr_dictT (hc : X.calm = true) (hu : X.A.units + 64 < cLine) : CallR X (.type "dict") (rDictT X.K) := by
  intro pins s σ H xs us Q I r h
  obtain ⟨a, R, rfl, hl, hR, q⟩ := h
  obtain ⟨u, rfl, rx⟩ := r.one
  cases rx
  obtain ⟨Z, eZ, hZ⟩ := pair_vals I hR
  obtain ⟨its, rv, pl, hz⟩ := I.list hl
  have ei : its = (R.map (·.1)).map Value.ref := refs_at (by rw [List.map_map]; exact rv)
  subst ei
  have lZ : Z.length = R.length := by rw [← eZ, List.length_map]
  have hzl : R.length ≤ sizeLine := by simpa using hz
  have gz : ∀ (j : Nat) (k v : Value), (Z.map fun z => (Value.ref z.1.2.1.1, z.2))[j]? = some (k, v) → ∃ z, Z[j]? = some z ∧ k = .ref z.1.2.1.1 ∧ v = z.2 := fun j k v e => by
    rw [List.getElem?_map] at e
    cases q : Z[j]? with
    | none => rw [q] at e; cases e
    | some z => rw [q] at e; cases e; exact ⟨z, rfl, rfl, rfl⟩
  have gR : ∀ {j : Nat} {z : PRow × Value}, Z[j]? = some z → R[j]? = some z.1 := fun {j z} e => by rw [← eZ, List.getElem?_map, e]; rfl
  have keyat : ∀ h' : Heap, (∀ b o, s.heap.get? b = some o → h'.get? b = some o) → ∀ z ∈ Z, (tupleKind (mixKind X.prog X.w)).is h' (keyI z.1.2.1.2) z.1.2.1.1 := fun h' k z hz => by
    obtain ⟨o, its, n, ho, h2, h3, h4⟩ := key_of (ks := keyI z.1.2.1.2) I.hok (by unfold keyI; rw [kV_ints]; exact (hZ z hz).2.2)
    exact ⟨o, its, n, k _ _ ho, h2, h3, h4⟩
  refine call_dict_pairsH (knd := tupleKind (mixKind X.prog X.w)) (ps := Z.map fun z => (keyI z.1.2.1.2, z.1.2.1.1, z.2)) (PairArg.list a ((R.map (·.1)).map Value.ref).toArray (fun j => (R.map (·.1)).getD j 0) (Z.map fun z => (Value.ref z.1.2.1.1, z.2)))
    (I.ok.hd hc) (tupleKind_room_in1 (A := X.A.in1) (by show X.A.units + 1 + 1 < cLine; omega)) ⟨by obtain ⟨o, n, ho, hcl, hdi, hda⟩ := pl; exact ⟨o, n, ho, hcl, hdi, hda⟩, ⟨by simp [lZ], fun j k v e => ?_⟩⟩ ⟨by simp, fun j k v e => ?_⟩ (fun h' hk x hx => ?_) (by rw [List.length_map, lZ]; exact hzl) fun h' tk hd' hk => ?_
  · obtain ⟨z, ez, rfl, rfl⟩ := gz j k v e
    have er := gR ez
    refine ⟨by simp [er], ?_⟩
    have ed : (R.map (·.1)).getD j 0 = z.1.1 := by rw [List.getD_eq_getElem?_getD, List.getElem?_map, er]; rfl
    show PairAt s.heap ((R.map (·.1)).getD j 0) _ _
    rw [ed]
    exact .inl (hZ z (List.mem_of_getElem? ez)).2.1
  · obtain ⟨z, ez, rfl, rfl⟩ := gz j k v e
    exact ⟨keyI z.1.2.1.2, z.1.2.1.1, by rw [List.getElem?_map, ez]; rfl, rfl⟩
  · obtain ⟨z, hz, rfl⟩ := List.mem_map.mp hx
    exact keyat h' (fun b o e => hk b o (Nat.ne_of_lt (Heap.lt_size e)) (fun m => nomatch m) e) z hz
  · obtain ⟨o, es, ep, ho, hcx, hdat, he, his, hn⟩ := hd'
    have hk' : ∀ b o, s.heap.get? b = some o → h'.get? b = some o := fun b o e => hk b o (fun m => nomatch m) e
    have hm : (s.heap.objs.size == sysModules) = false := beq_eq_false_iff_ne.mpr (Nat.ne_of_gt I.big)
    have hno : H s.heap.objs.size = none := I.hok.fresh (Nat.le_refl _)
    have kt0 : KT H (mergeT putK (R.map fun r => (keyI r.2.1.2, r.2.2))) (storedAllH [] (Z.map fun z => (keyI z.1.2.1.2, z.1.2.1.1, z.2))) := by
      have e : (R.map fun r => (keyI r.2.1.2, r.2.2)) = Z.map fun z => (keyI z.1.2.1.2, z.1.2.2) := by rw [← eZ, List.map_map]; rfl
      rw [e]
      exact kt_merge (acc := []) (fun z hz => ⟨(hZ z hz).1, (hZ z hz).2.2⟩) .nil
    have kt : KT (upd H s.heap.objs.size (.dT (mergeT putK (R.map fun r => (keyI r.2.1.2, r.2.2))))) (mergeT putK (R.map fun r => (keyI r.2.1.2, r.2.2))) (storedAllH [] (Z.map fun z => (keyI z.1.2.1.2, z.1.2.1.1, z.2))) := kt0.keeps fun b ys e => by
      rw [upd_ne (ne_of_none e hno)]; exact e
    have hlen : (mergeT putK (R.map fun r => (keyI r.2.1.2, r.2.2))).length ≤ sizeLine := by
      have := length_merge (f := putK) length_putK (R.map fun r => (keyI r.2.1.2, r.2.2)) []
      rw [List.length_map] at this
      unfold mergeT
      simp only [List.length_nil, Nat.zero_add] at this
      omega
    exact ⟨.ref s.heap.objs.size, upd H s.heap.objs.size (.dT (mergeT putK (R.map fun r => (keyI r.2.1.2, r.2.2)))), I.laid (t' := tk) hk' (Nat.le_refl _)
      (show ObjOk X.prog X.w _ _ _ (.dT (mergeT putK (R.map fun r => (keyI r.2.1.2, r.2.2)))) from ⟨hlen, hm, _, kt, o, es, ep, ho, hcx, hdat, he, hn⟩), rfl, q _ hno⟩
end
end Fw
set_option Elab.async false
set_option linter.all false
set_option maxRecDepth 100000
set_option maxHeartbeats 4000000
namespace FwS
open PySem PySem.Spec PyProof.Rows L2
section
variable {P : Program} {w : World} {A : Around} {E : Value → Shared → Prop} {s : Shared}
set_option maxHeartbeats 8000000 in
theorem call_set_tupT {l : Addr} {items : Array Value} (ks : List (Addr × List Int)) {Q : Value → Shared → Prop} (noex : A.handled = none) (tupl : s.heap.IsTuple l items) (itks : items.toList = ks.map fun p => Value.ref p.1)
    (istk : ∀ p ∈ ks, IsT P w s.heap p.2 p.1) (sixty : ks.length < 64) (unit3 : A.units + 3 < cLine)
    (h : ∀ (h' : Heap) (tk : Nat) L es ep t, SetTR P w h' s.heap.objs.size L es ep t → Got ks ks.length L → (∀ b o, s.heap.get? b = some o → h'.get? b = some o) → Q (.ref s.heap.objs.size) { s with heap := h', toks := tk }) :
    wpAny (model P w) A (call (.type "set") [.ref l]) Q E s := by
  have sizk : items.size = ks.length := by
    have q := congrArg List.length itks
    rw [Array.length_toList, List.length_map] at q
    exact q
  obtain ⟨c, tl, mroq⟩ := F.called_set.mro
  have madeq := F.called_set.made
  have subq := F.called_set.sub
  refine wpAny_call (codeAny_of_tree ?_)
  show wpAny _ _ (callAny (.type "set") _) _ _ _
  refine wpAny_pure ⟨Code.quiet_builtin _ (by decide +kernel), codeAny_builtin F.entry_type_call ?_⟩
  rw [Around.under_plain (weight_type_call_type "set" [.ref l] []) rfl]
  have fa1 := F.called_set.notType
  have fa2 := F.called_set.canCreate
  have tcs := F.typeCall_set_1 (.ref l)
  repeat (any_goals (first | assumption | wp_step))

  refine codeAny_mono (code_set_led1 (.ref l) (E := E) (Q₁ := fun obj s₁ => obj = .ref s.heap.objs.size ∧ s₁ = { s with heap := s.heap.push { cls := .type "set", dict := none, data := .set #[] 0 (.fresh 0 0 (!w.params.followText "set-order")) } }) ⟨rfl, rfl⟩) fun r s₁ resr => ?_
  cases r with
  | error e => exact resr
  | ok fl =>
    cases fl with
    | ret obj =>
      obtain ⟨rfl, rfl⟩ := resr
      have atS : (s.heap.push { cls := .type "set", dict := none, data := .set #[] 0 (.fresh 0 0 (!w.params.followText "set-order")) }).get? s.heap.objs.size = some { cls := .type "set", dict := none, data := .set #[] 0 (.fresh 0 0 (!w.params.followText "set-order")) } := Heap.get?_push_size _ rfl
      have tyS : Shared.TypeIs { s with heap := s.heap.push { cls := .type "set", dict := none, data := .set #[] 0 (.fresh 0 0 (!w.params.followText "set-order")) } } (.ref s.heap.objs.size) "set" := ⟨_, atS, rfl⟩
      have lkp := F.called_set.init.lookup
      have bnd0 := F.called_set.init.bind (.ref s.heap.objs.size)
      repeat (any_goals (first | assumption | wp_step))

      refine codeAny_mono (codeAny_call_builtin (R := wants (fun r s₂ => r = .none ∧ ∃ h' tk L es ep t, s₂ = { s with heap := h', toks := tk } ∧ SetTR P w h' s.heap.objs.size L es ep t ∧ Got ks ks.length L ∧
          (∀ b o, s.heap.get? b = some o → h'.get? b = some o)) E) F.called_set.init.plain F.entry_set_init (check_set_init_1 tyS ?_)) fun r₂ s₂ resr2 => ?_
      · obtain ⟨objx, objl, clsl, numl, datl⟩ := tupl
        obtain ⟨kc, kd, kt, ks2⟩ := objx
        simp only at clsl datl
        subst clsl; subst datl
        have objl1 : (s.heap.push { cls := .type "set", dict := none, data := .set #[] 0 (.fresh 0 0 (!w.params.followText "set-order")) }).get? l = some { cls := .type "tuple", dict := kd, data := .seq items numl, slots := ks2 } := Heap.get?_push_of_some _ objl
        have nset := F.sub_tuple_set
        have nfro := F.sub_tuple_frozenset
        have ndic : (Value.type "tuple" == Value.type "dict") = false := by decide
        have tup1 : (s.heap.push { cls := .type "set", dict := none, data := .set #[] 0 (.fresh 0 0 (!w.params.followText "set-order")) }).IsTuple l items := ⟨_, objl1, rfl, numl, rfl⟩
        unfold Builtin.«set.__init__» noKeywords Builtin.Frozenset.updateFrom
        generalize eitf : pyIter = itf
        wp_walk
        subst eitf

        refine wpAny_pyIter_tuple tup1 ?_
        refine wpAny_bind (wpAny_runValue ?_)
        have lltS : l < s.heap.objs.size := Heap.lt_size objl
        have noex3 : A.in1.in1.in1.handled = none := by simp [noex]
        have siz1 : (s.heap.push { cls := .type "set", dict := none, data := .set #[] 0 (.fresh 0 0 (!w.params.followText "set-order")) }).objs.size = s.heap.objs.size + 1 := Heap.size_push ..
        have lneI : l ≠ (s.heap.push { cls := .type "set", dict := none, data := .set #[] 0 (.fresh 0 0 (!w.params.followText "set-order")) }).objs.size := by
          rw [Heap.size_push]; exact Nat.ne_of_lt (Nat.lt_succ_of_lt lltS)
        have Sfree : s.heap.objs.size ∉ [(s.heap.push { cls := .type "set", dict := none, data := .set #[] 0 (.fresh 0 0 (!w.params.followText "set-order")) }).objs.size, l] := by
          rw [Heap.size_push]; simp only [List.mem_cons, List.mem_singleton, List.not_mem_nil, or_false, not_or]
          exact ⟨Nat.ne_of_lt (Nat.lt_succ_self _), Nat.ne_of_gt lltS⟩
        have valk : ∀ (i : Nat) (v : Value), items[i]? = some v → ∃ p, ks[i]? = some p ∧ v = .ref p.1 := fun i v hv => by
          have q : items.toList[i]? = some v := by rw [Array.getElem?_toList]; exact hv
          rw [itks, List.getElem?_map] at q
          cases hq : ks[i]? with
          | none => rw [hq] at q; cases q
          | some p =>
            rw [hq] at q
            exact ⟨p, rfl, (Option.some.inj q).symm⟩
        have none_of : ∀ b, s.heap.objs.size ≤ b → s.heap.get? b = none := fun b hb => by
          cases q : s.heap.get? b with
          | none => rfl
          | some o => exact absurd (Nat.lt_of_lt_of_le (Heap.lt_size q) hb) (Nat.lt_irrefl _)
        refine set_update_tups ((Walks.tuple noex3 _ l lneI items).toS) s.heap.objs.size
          Sfree ks sizk sixty valk s.heap istk (none_of _ (Nat.le_refl _)) (fun b hb => none_of b (by
            rw [List.mem_singleton.mp hb, Heap.size_push]
            exact Nat.le_succ _)) unit3 (items.size - 0) 0 _ (by omega) (Nat.zero_le _)
          ⟨⟨_, Heap.get?_push_size _ rfl, rfl, rfl⟩, (tup1.push _)⟩ (fun b o e => Heap.get?_push_of_some _ (Heap.get?_push_of_some _ e)) ?hS0 ?hR
        case hS0 =>
          have getS : ((s.heap.push { cls := .type "set", dict := none, data := .set #[] 0 (.fresh 0 0 (!w.params.followText "set-order")) }).push { cls := .type "tuple_iterator", data := .fields #[.ref l, .int 0 0] }).get? s.heap.objs.size
              = some { cls := .type "set", dict := none, data := .set #[] 0 (.fresh 0 0 (!w.params.followText "set-order")) } := Heap.get?_push_of_some _ atS
          exact ⟨[], #[], 0, _, setTR_fresh getS, Got.zero ks⟩
        case hR =>
          intro s' L es ep t hm hS' g' hkp
          obtain ⟨h', g2, d', tk', os'⟩ := s'
          have eg : g2 = s.gens := hm.gens
          have ed : d' = s.drawn := hm.drawn
          have eo : os' = s.os := hm.os
          subst eg; subst ed; subst eo
          show wpAny _ _ _ _ _ _
          refine wpAny_pure ?_
          show wpAny _ _ (ret Value.none) _ _ _
          rw [sizk] at g'
          exact wpAny_pure ⟨rfl, h', tk', L, es, ep, t, rfl, hS', g', hkp⟩

      · cases r₂ with
        | error e => exact resr2
        | ok fl₂ =>
          cases fl₂ with
          | ret r =>
            obtain ⟨rfl, h', tk, L, es, ep, t, rfl, hS', g', hk'⟩ := resr2
            repeat (any_goals (first | assumption | wp_step))
            exact h _ _ _ _ _ _ hS' g' hk'
          | _ => exact resr2.elim
    | _ => exact resr.elim
end
end FwS
set_option Elab.async false
set_option linter.all false
set_option maxRecDepth 100000
set_option maxHeartbeats 4000000
namespace Fw
open PySem PySem.Spec PyProof.Rows L2
section
variable {X : Cx} {κ : Kx} {Wx : WX} {w : Wd} {st : Sto} {σ : L2.St} {H : Hp} {ex : Nat → Addr} {mo mi me : Env' → M D} {o i e : Expr} {pos pos' : Pos}
/-! ## set(xs) -/
def mkSet (xs : List PyData) (st : Sto) : Option (D × Sto) := match tis xs with
  | some ks => if ks.length < 64 then some (.loc st.length, st ++ [.set ks]) else none
  | none => none
def setF : Fn1 := fun d st => match d with
  | .p (.list xs) => mkSet xs st
  | .p (.tuple xs) => mkSet xs st
  | _ => none
theorem set_fin {a : Addr} {ks : List (List Int)} {L : List (Addr × List Int)} {Q : VK} (hH : HoldK κ w st H) (na : H a = none) (hs : ∀ p ∈ L, SqT (strip κ.K) w.W p.1 (p.2.map V.int)) (hm : ∀ k, k ∈ L.map (·.2) ↔ k ∈ ks)
    (fin : ∀ w' H' v, w.Le w' → HoldK κ w' (st ++ [.set ks]) H' → RelD κ.K w' (.loc st.length) v → Q v H') : Q (.ref a) (upd H a (SetTO κ.P κ.ww a L)) := by
  have hI := Hold.mut_new (o := SetTO κ.P κ.ww a L) (b := .set ks) hH na ⟨L, rfl, hm, hs⟩ True.intro
  exact fin _ _ _ Wd.le_mut hI ⟨a, rfl, by
    show (w.L ++ [a])[st.length]? = some a
    rw [← hH.len, List.getElem?_append_right (Nat.le_refl _)]
    simp⟩
theorem c_set (hc : X.calm = true) (hu : X.A.units + 64 < cLine) : CallR X (.type "set") (rdL (kxOf X ex) (gL1 setF)) := by
  intro pins s σ H vs us Q I rv h
  obtain ⟨w, x, v, st, rfl, r1, hH, d, st', e, fin⟩ := gL1_inv h
  unfold setF at e
  have mk : ∀ {xs : List PyData}, mkSet xs st = some (d, st') → ∃ ks, xs = ks.map tupI ∧ ks.length < 64 ∧ d = .loc st.length ∧ st' = st ++ [.set ks] := fun {xs} h => by
    unfold mkSet at h
    split at h
    · rename_i ks q
      split at h
      · rename_i hl
        cases h
        exact ⟨ks, tis_eq q, hl, rfl, rfl⟩
      · cases h
    · cases h
  split at e
  · rename_i xs
    obtain ⟨ks, rfl, hl, rfl, rfl⟩ := mk e
    have r1' : Dq X.K w.W v (.list (ks.map tupI)) := r1
    obtain ⟨b, ws, rfl, s1, a1⟩ := Dq.lst_inv r1'
    obtain ⟨L0, rfl, rfl, h3⟩ := rows_of a1
    have hl' : L0.length < 64 := by simpa using hl
    refine cr_setOfT hc hu pins s σ H _ us Q I rv ⟨b, L0, rfl, sqL_mono (fun _ _ e => hH.wd e) s1, fun p hp => sqT_up (sqT_mono (fun _ _ e => hH.wd e) (h3 p hp)), hl', fun a L na g1 g2 => ?_⟩
    exact set_fin (κ := kxOf X ex) hH na (fun p hp => h3 p (g1 p hp)) (fun k => ⟨fun hk => by
      obtain ⟨p, hp, rfl⟩ := List.mem_map.mp hk
      exact List.mem_map.mpr ⟨p, g1 p hp, rfl⟩, fun hk => by
      obtain ⟨p, hp, rfl⟩ := List.mem_map.mp hk
      exact g2 p hp⟩) fin
  · rename_i xs
    obtain ⟨ks, rfl, hl, rfl, rfl⟩ := mk e
    have r1' : Dq X.K w.W v (.tuple (ks.map tupI)) := r1
    obtain ⟨b, ws, rfl, s1, a1⟩ := Dq.tup_inv r1'
    obtain ⟨L0, rfl, rfl, h3⟩ := rows_of a1
    have hl' : L0.length < 64 := by simpa using hl
    rw [Vals.ref1 rv]
    obtain ⟨its, ri, pl, hz⟩ := I.tuple (sqT_mono (fun _ _ e => hH.wd e) s1)
    have hn : H s.heap.objs.size = none := I.hok.fresh (Nat.le_refl _)
    refine FwS.call_set_tupT (P := X.prog) (w := X.w) L0 (I.ok.hd hc) pl (by simpa using refs_of_vals ri) (fun p hp => I.isT (sqT_up (sqT_mono (fun _ _ e => hH.wd e) (h3 p hp)))) hl' (by omega) fun h' tk L es ep t R g k => ?_
    refine ⟨.ref s.heap.objs.size, upd H s.heap.objs.size (SetTO X.prog X.w s.heap.objs.size L), I.laid (t' := tk) k (Nat.le_refl _) (setTO_new R.t0), rfl, ?_⟩
    have g1 : ∀ p ∈ L, p ∈ L0 := fun p hp => List.mem_of_mem_take (g.sub p hp)
    have g2 : ∀ p ∈ L0, p.2 ∈ L.map (·.2) := fun p hp => g.all p (by rw [List.take_length]; exact hp)
    exact set_fin (κ := kxOf X ex) hH hn (fun p hp => h3 p (g1 p hp)) (fun k => ⟨fun hk => by
      obtain ⟨p, hp, rfl⟩ := List.mem_map.mp hk
      exact List.mem_map.mpr ⟨p, g1 p hp, rfl⟩, fun hk => by
      obtain ⟨p, hp, rfl⟩ := List.mem_map.mp hk
      exact g2 p hp⟩) fin
  · cases e

/-! ## sorted(..) of a set, of a dict, of data -/
def sortF : Fn1 := fun d st => match d with
  | .loc n => (match st[n]? with
    | some (.set ks) => if okK ks = true then some (.p (.list ((canon ks).map tupI)), st) else none
    | some (.dT kvs) => (match dKeys kvs with
      | some ks => if okK ks = true then some (.p (.list ((canon ks).map tupI)), st) else none
      | none => none)
    | some (.lst _) => lift1 1 (sortP false) (.loc n) st
    | _ => none)
  | x => lift1 1 (sortP false) x st
theorem rows_new {L : List (Addr × List Int)} {p : Addr} {Q : VK} (hH : HoldK κ w st H) (np : H p = none) (h : ∀ q ∈ L, SqT (strip κ.K) w.W q.1 (q.2.map V.int))
    (fin : ∀ w' H' v, w.Le w' → HoldK κ w' st H' → RelD κ.K w' (.p (.list ((L.map (·.2)).map tupI))) v → Q v H') : Q (.ref p) (upd H p (.lst (L.map fun q => V.ref q.1))) := fin_lst hH np (rows_to h) fin
theorem rows_canon {L : List (Addr × List Int)} {d : Nat} {B : Int} {ks : List (List Int)} (hd : ∀ k ∈ ks, k.length = d ∧ TS.Bd B k) (hm : ∀ k, k ∈ L.map (·.2) ↔ k ∈ ks) (hn : (L.map (·.2)).Nodup) (hp : L.Pairwise fun q r => TS.code B q.2 ≤ TS.code B r.2) : L.map (·.2) = canon ks :=
  code_canon (List.pairwise_map.mpr hp) hn (fun k hk => hd k ((hm k).mp hk)) hm
theorem c_sortedG (hc : X.calm = true) (hu : X.A.units + 64 < cLine) : CallR X (.builtin "sorted") (rdL (kxOf X ex) (gL1 sortF)) := by
  intro pins s σ H vs us Q I rv h
  obtain ⟨w, x, v, st, rfl, r1, hH, d, st', e, fin⟩ := gL1_inv h
  cases x with
  | p y => exact c_sorted hu pins s σ H _ us Q I rv ⟨w, [.p y], st, .cons r1 .nil, hH, d, st', e, fin⟩
  | loc n =>
    obtain ⟨a, rfl, ha⟩ := r1
    have e' : (match st[n]? with
      | some (.set ks) => if okK ks = true then some (D.p (.list ((canon ks).map tupI)), st) else none
      | some (.dT kvs) => (match dKeys kvs with
        | some ks => if okK ks = true then some (D.p (.list ((canon ks).map tupI)), st) else none
        | none => none)
      | some (.lst _) => lift1 1 (sortP false) (.loc n) st
      | _ => none) = some (d, st') := e
    cases q : st[n]? with
    | none => rw [q] at e'; cases e'
    | some b =>
      rw [q] at e'
      cases b with
      | set ks =>
        simp only at e'
        split at e'
        · rename_i hk
          cases e'
          obtain ⟨h64, dd, B, hd1, hB⟩ := okK_ok hk
          obtain ⟨ob, hob, L, rfl, hm, hs⟩ := hH.obs n a _ ha q
          have hmem : ∀ p ∈ L, p.2 ∈ ks := fun p hp => (hm p.2).mp (List.mem_map.mpr ⟨p, hp, rfl⟩)
          refine cr_sortedT hc pins s σ H _ us Q I rv ⟨a, L, dd, B, rfl, hob, fun p hp => sqT_up (sqT_mono (fun _ _ e => hH.wd e) (hs p hp)), hd1, fun p hp => hB _ (hmem p hp), fun L' p pm nd l64 pw np => ?_⟩
          have e1 : L'.map (·.2) = canon ks := rows_canon hB (fun k => by rw [← hm k]; exact (pm.map _).mem_iff) nd pw
          exact rows_new (κ := kxOf X ex) hH np (fun z hz => hs z (pm.mem_iff.mp hz)) (by rw [e1]; exact fin)
        · cases e'
      | dT kvs =>
        simp only at e'
        split at e'
        · rename_i ks qk
          split at e'
          · rename_i hk
            cases e'
            obtain ⟨ob, hob, vs', rfl, hke, _⟩ := hH.obs n a _ ha q
            refine cr_sortD hc pins s σ H _ us Q I rv ⟨a, vs', ks, rfl, hob, by rw [hke]; exact dKeys_eq qk, hk, fun L p hL eL np => ?_⟩
            obtain ⟨w2, le2, hH2, hw2⟩ := Hold.adopt hH (fun b => ∃ z ∈ L, z.1 = b) fun b ⟨z, hz, eb⟩ => ⟨z.2.map V.int, by rw [← eb]; exact hL z hz⟩
            exact rows_new (κ := kxOf X ex) hH2 np (fun z hz => SqT.of (hw2 z.1 _ ⟨z, hz, rfl⟩ (hL z hz))) (by rw [eL]; exact fun w' H' v le => fin w' H' v (le2.trans le))
          · cases e'
        · cases e'
      | lst _ => exact c_sorted hu pins s σ H _ us Q I rv ⟨w, [.loc n], st, .cons ⟨a, rfl, ha⟩ .nil, hH, d, st', e', fin⟩
      | dK _ => cases e'

/-! ## dicts with rows of ints as keys -/
def putX {α : Type} (kvs : List (List Key × α)) (k : List Key) (v : α) : List (List Key × α) := if (kvs.any fun q => decide (q.1 = k)) = true then kvs.map (fun q => if q.1 = k then (q.1, v) else q) else kvs ++ [(k, v)]
inductive RP (K : PySem.W.Frag) (w : Wd) : List (List Key × PyData) → List (List Key × V) → Prop
  | nil : RP K w [] []
  | cons {k : List Key} {x : PyData} {v : V} {l : List (List Key × PyData)} {m : List (List Key × V)} : Dq K w.W v x → RP K w l m → RP K w ((k, x) :: l) ((k, v) :: m)
theorem RP.of {K : PySem.W.Frag} {w : Wd} : ∀ {l : List (List Key × PyData)} {m : List (List Key × V)}, m.map (·.1) = l.map (·.1) → RelL K w (l.map fun q => .p q.2) (m.map (·.2)) → RP K w l m
  | [], [], _, _ => .nil
  | [], _ :: _, h, _ => by cases h
  | _ :: _, [], h, _ => by cases h
  | (k, x) :: l, (j, v) :: m, h, r => by
    rw [List.map_cons, List.map_cons] at h
    injection h with h1 h2
    cases h1
    cases r with
    | cons a b => exact .cons a (RP.of h2 b)
theorem RP.keys {K : PySem.W.Frag} {w : Wd} : ∀ {l : List (List Key × PyData)} {m : List (List Key × V)}, RP K w l m → m.map (·.1) = l.map (·.1)
  | _, _, .nil => rfl
  | _, _, .cons _ r => by rw [List.map_cons, List.map_cons, RP.keys r]
theorem RP.vals {K : PySem.W.Frag} {w : Wd} : ∀ {l : List (List Key × PyData)} {m : List (List Key × V)}, RP K w l m → RelL K w (l.map fun q => .p q.2) (m.map (·.2))
  | _, _, .nil => .nil
  | _, _, .cons d r => .cons d (RP.vals r)
theorem RP.any {K : PySem.W.Frag} {w : Wd} {k : List Key} : ∀ {l : List (List Key × PyData)} {m : List (List Key × V)}, RP K w l m → (l.any fun q => decide (q.1 = k)) = (m.any fun q => decide (q.1 = k))
  | _, _, .nil => rfl
  | _, _, .cons d r => by rw [List.any_cons, List.any_cons, RP.any r]
theorem RP.repl {K : PySem.W.Frag} {w : Wd} {k : List Key} {x : PyData} {v : V} (d : Dq K w.W v x) : ∀ {l : List (List Key × PyData)} {m : List (List Key × V)}, RP K w l m → RP K w (l.map fun q => if q.1 = k then (q.1, x) else q) (m.map fun q => if q.1 = k then (q.1, v) else q)
  | _, _, .nil => .nil
  | _, _, .cons (k := j) d' r => by
    rw [List.map_cons, List.map_cons]
    by_cases e : j = k
    · rw [if_pos e, if_pos e]; exact .cons d (RP.repl d r)
    · rw [if_neg e, if_neg e]; exact .cons d' (RP.repl d r)
theorem RP.snoc {K : PySem.W.Frag} {w : Wd} {k : List Key} {x : PyData} {v : V} (d : Dq K w.W v x) : ∀ {l : List (List Key × PyData)} {m : List (List Key × V)}, RP K w l m → RP K w (l ++ [(k, x)]) (m ++ [(k, v)])
  | _, _, .nil => .cons d .nil
  | _, _, .cons d' r => .cons d' (RP.snoc d r)
theorem RP.put {K : PySem.W.Frag} {w : Wd} {k : List Key} {x : PyData} {v : V} {l : List (List Key × PyData)} {m : List (List Key × V)} (d : Dq K w.W v x) (r : RP K w l m) : RP K w (putX l k x) (putK m k v) := by
  unfold putX putK
  rw [r.any]
  split
  · exact r.repl d
  · exact r.snoc d
theorem RP.merge {K : PySem.W.Frag} {w : Wd} : ∀ {l acc : List (List Key × PyData)} {m bcc : List (List Key × V)}, RP K w l m → RP K w acc bcc → RP K w (l.foldl (fun a q => putX a q.1 q.2) acc) (m.foldl (fun a q => putK a q.1 q.2) bcc)
  | _, _, _, _, .nil, r => r
  | _, _, _, _, .cons (k := k) (x := x) (v := v) (l := l) (m := m) d t, r => RP.merge (l := l) (m := m) t (RP.put d r)
def mNewD : Env' → M D := fun _ st => .ok (.loc st.length) (st ++ [.dT []])
theorem r_newD : PE X (.Dict [] [] pos) (rdE κ mNewD Wx) := pe_dnewT.wk fun σ H Q h => by
  obtain ⟨w, env, st, hE, hH, hp⟩ := h
  intro p np
  have hI := Hold.mut_new (o := .dT []) (b := .dT []) hH np ⟨[], rfl, rfl, .nil⟩ True.intro
  refine hp _ _ Wd.le_mut hI _ ⟨p, rfl, ?_⟩
  show (w.L ++ [p])[st.length]? = some p
  rw [← hH.len, List.getElem?_append_right (Nat.le_refl _)]
  simp
/-- pairs of a row and a datum -/
def prs : List PyData → Option (List (List Int × PyData))
  | [] => some []
  | .tuple [k, x] :: r => (match asTI k, prs r with
    | some ks, some l => if ks ≠ [] then some ((ks, x) :: l) else none
    | _, _ => none)
  | _ :: _ => none
theorem prs_eq : ∀ {xs : List PyData} {l : List (List Int × PyData)}, prs xs = some l → (xs = l.map fun q => .tuple [tupI q.1, q.2]) ∧ ∀ q ∈ l, q.1 ≠ []
  | [], l, h => by cases h; exact ⟨rfl, fun q h => absurd h List.not_mem_nil⟩
  | x :: r, l, h => by
    unfold prs at h
    split at h
    · rename_i hx; cases hx
    · rename_i k y r' hx
      injection hx with h1 h2
      subst h1 h2
      split at h
      · rename_i ks l' h1 h2
        split at h
        · rename_i hne
          cases h
          obtain ⟨q1, q2⟩ := prs_eq h2
          refine ⟨by rw [List.map_cons, asTI_eq h1, ← q1], fun q hq => ?_⟩
          rcases List.mem_cons.mp hq with e | hq
          · rw [e]; exact hne
          · exact q2 q hq
        · cases h
      · cases h
    · cases h
def dictF : Fn1 := fun d st => match d with
  | .p (.list xs) => (match prs xs with
    | some l => some (.loc st.length, st ++ [.dT (mergeT putX (l.map fun q => (keyI q.1, q.2)))])
    | none => none)
  | _ => none
theorem prows_of {K : PySem.W.Frag} {W : Hp} : ∀ {l : List (List Int × PyData)} {vs : List V}, DqAll K W vs (l.map fun q => .tuple [tupI q.1, q.2]) → ∃ R : List PRow, vs = R.map (fun r => V.ref r.1) ∧
    (∀ r ∈ R, SqT K W r.1 [V.ref r.2.1.1, r.2.2] ∧ SqT (strip K) W r.2.1.1 (r.2.1.2.map V.int) ∧ ∃ q ∈ l, q.1 = r.2.1.2) ∧ ∀ w : Wd, w.W = W → RP K w (l.map fun q => (keyI q.1, q.2)) (R.map fun r => (keyI r.2.1.2, r.2.2))
  | [], _, r => by cases r; exact ⟨[], rfl, ⟨fun p h => absurd h List.not_mem_nil, fun _ _ => RP.nil⟩⟩
  | q :: l, _, r => by
    cases r with
    | cons a b =>
      obtain ⟨R, e1, h2, h3⟩ := prows_of b
      obtain ⟨c, us, e3, s, d⟩ := Dq.tup_inv a
      cases d with
      | cons d1 d2 =>
        cases d2 with
        | cons d2 d3 =>
          cases d3
          obtain ⟨c2, us2, e4, s2, d4⟩ := Dq.tup_invS d1
          have e5 := Dq.ints d4
          subst e5 e4 e3 e1
          refine ⟨(c, (c2, q.1), _) :: R, rfl, fun p hp => ?_, fun w hw => .cons (by rw [hw]; exact d2) (h3 w hw)⟩
          rcases List.mem_cons.mp hp with z | hp
          · rw [z]; exact ⟨s, s2, q, List.mem_cons_self, rfl⟩
          · obtain ⟨g1, g2, y, hy, ey⟩ := h2 p hp
            exact ⟨g1, g2, y, List.mem_cons_of_mem _ hy, ey⟩
theorem c_dict (hc : X.calm = true) (hu : X.A.units + 64 < cLine) : CallR X (.type "dict") (rdL (kxOf X ex) (gL1 dictF)) := by
  intro pins s σ H vs us Q I rv h
  obtain ⟨w, x, v, st, rfl, r1, hH, d, st', e, fin⟩ := gL1_inv h
  unfold dictF at e
  split at e
  · rename_i xs
    split at e
    · rename_i l ql
      cases e
      obtain ⟨hxs, hne⟩ := prs_eq ql
      subst hxs
      have r1' : Dq X.K w.W v (.list _) := r1
      obtain ⟨b, ws, rfl, s1, a1⟩ := Dq.lst_inv r1'
      obtain ⟨R, rfl, h2, h3⟩ := prows_of a1
      refine cr_dictT hc hu pins s σ H _ us Q I rv ⟨b, R, rfl, sqL_mono (fun _ _ e => hH.wd e) s1, fun r hr => ⟨sqT_mono (fun _ _ e => hH.wd e) (h2 r hr).1, hH.wd (trk (κ := kxOf X ex) hH (by obtain ⟨y, hy, ey⟩ := (h2 r hr).2.2; rw [← ey]; exact hne y hy) (h2 r hr).2.1)⟩, fun p np => ?_⟩
      have rp : RP X.K w (mergeT putX (l.map fun q => (keyI q.1, q.2))) (mergeT putK (R.map fun r => (keyI r.2.1.2, r.2.2))) := RP.merge (h3 w rfl) .nil
      have hI := Hold.mut_new (b := .dT (mergeT putX (l.map fun q => (keyI q.1, q.2)))) hH np ⟨_, rfl, rp.keys, rp.vals⟩ True.intro
      refine fin _ _ _ Wd.le_mut hI ⟨p, rfl, ?_⟩
      show (w.L ++ [p])[st.length]? = some p
      rw [← hH.len, List.getElem?_append_right (Nat.le_refl _)]
      simp
    · cases e
  · cases e
/-- d[k] = v -/
def putD (o k v : D) (st : Sto) : Option Sto := match o, k, v with
  | .loc n, .p k, .p x => (match st[n]?, asTI k with
    | some (.dT kvs), some ks => if ks ≠ [] ∧ kvs.length ≤ 1000000 then some (st.set n (.dT (putX kvs (keyI ks) x))) else none
    | _, _ => none)
  | _, _, _ => none
def sPutD (mo mi me : Env' → M D) : MS := fun env => sbnd (bnd (me env) fun v => bnd (mo env) fun o => bnd (mi env) fun i => fun st => match putD o i v st with
  | some st' => .ok () st'
  | none => .bad) env fun _ st => .nx env st
theorem r_sputd (hu : X.A.units + 64 < cLine) (he : PE X e (rdE (kxOf X ex) me Wx)) (ho : PE X o (rdE (kxOf X ex) mo Wx)) (hi : PE X i (rdE (kxOf X ex) mi Wx)) (hs : swapsWith e (some (.Subscript o i pos')) pos.line X.env = pure false) :
    PS X (.Assign [.Subscript o i pos'] e pos) (rdS (kxOf X ex) (sPutD mo mi me) Wx) :=
  (ps_dput (by omega) ho hi he hs).wk fun E σ H h => by
    obtain ⟨w, env, st, hE, hH, hp⟩ := h
    have hp1 := PostG.bnd (PostS.bnd hE hp)
    refine ⟨w, env, st, hE, hH, hp1.imp fun v st1 w1 H1 le1 hH1 hp2 vv rv => ?_⟩
    have hE1 := hE.mono le1.toLc
    refine ⟨w1, env, st1, hE1, hH1, (PostG.bnd hp2).imp fun ov st2 w2 H2 le2 hH2 hp3 vo ro => ?_⟩
    have hE2 := hE1.mono le2.toLc
    refine ⟨w2, env, st2, hE2, hH2, (PostG.bnd hp3).imp fun iv st3 w3 H3 le3 hH3 hp4 vi ri => ?_⟩
    have hE3 := hE2.mono le3.toLc
    have ro3 := ro.mono le3.toLc
    have rv3 := rv.mono (le2.trans le3).toLc
    cases q : putD ov iv v st3 with
    | none => rw [q] at hp4; exact hp4.elim
    | some st4 =>
      rw [q] at hp4
      simp only at hp4
      unfold putD at q
      split at q
      · rename_i n k x
        split at q
        · rename_i kvs ks qd qk
          split at q
          · rename_i hl
            cases q
            obtain ⟨a, rfl, hla⟩ := ro3
            obtain ⟨ob, hob, vs', rfl, hk1, hk2⟩ := hH3.obs n a _ hla qd
            have := asTI_eq qk
            subst this
            have ri' : Dq X.K w3.W vi (.tuple (ks.map .int)) := ri
            obtain ⟨c, us, rfl, s1, a1⟩ := Dq.tup_invS ri'
            have := Dq.ints a1
            subst this
            have rp := (RP.of hk1 hk2).put (k := keyI ks) (x := x) (v := vv) rv3
            have hI : HoldK (kxOf X ex) w3 (st3.set n (.dT (putX kvs (keyI ks) x))) (upd H3 a (.dT (putK vs' (keyI ks) vv))) := Hold.write hH3 hla ⟨_, rfl, rp.keys, rp.vals⟩ True.intro
            have hlen : vs'.length = kvs.length := by
              have := congrArg List.length hk1
              simpa using this
            refine ⟨a, _, rfl, DPut.t (k := keyI ks) hob ?_ (by rw [hlen, sizeLine_eq]; have := hl.2; omega), hp4 w3 _ (Wd.Le.refl w3) hI w3 σ _ (Wd.Le.refl w3) hI hE3⟩
            show H3 c = some (.tup ((keyI ks).map kV))
            unfold keyI
            rw [kV_ints]
            exact hH3.wd (trk (κ := kxOf X ex) hH3 hl.1 s1)
          · cases q
        · cases q
      · cases q
end
end Fw
set_option Elab.async false
set_option linter.all false
set_option maxRecDepth 100000
set_option maxHeartbeats 4000000
namespace Fw
open PySem PySem.Spec PyProof.Rows L2

/-! ## what is known of a text's names -/
structure Ck where
  N : List Str
  sc : Scope
  blk : Option Scope
  free : List Str
  glo : List (Str × PyData)
  funs : List (Str × Nat × (List D → M D))
  exs : List (Str × Nat)
  isa : Nat → Nat → Option Bool
  mu : List Nat
  dct : List Str
  fuel : Nat
def Ck.fnB (C : Ck) : Str → Bool := match C.blk with
  | none => fun _ => true
  | some s => fun x => s.names.lookup x == some .cell
structure Good (C : Ck) (X : Cx) (ex : Nat → Addr) (k : Nat) (Wx : WX) : Prop where
  calm : X.calm = true
  N : X.N = C.N
  nd : C.N.Nodup
  sc : X.env.scope = C.sc
  fn : X.fn = C.fnB
  free : ∀ x ∈ C.free, X.mg x = none
  glo : ∀ x d, C.glo.lookup x = some d → ∃ u v, X.mg x = some u ∧ RelV v u ∧ ∀ W, Dq X.K W v d
  funs : ∀ x q, C.funs.lookup x = some q → ∃ ps : List Str, ps.length = q.1 ∧ FnAt X ex k x ps q.2
  exs : ∀ x c, C.exs.lookup x = some c → ExcF X x (ex c)
  isa : ∀ c d b, C.isa c d = some b → PySem.W.exmOne X.K (.ref (ex c)) (.ref (ex d)) = some b
  tk : Takes X Wx
  room : Room k X.A
section
variable {C : Ck} {X : Cx} {ex : Nat → Addr} {k : Nat} {Wx : WX}
def ixOf : List Str → Str → Option Nat
  | [], _ => none
  | y :: r, x => if y = x then some 0 else (ixOf r x).map (· + 1)
theorem ixOf_ok : ∀ {N : List Str} {x : Str} {i : Nat}, ixOf N x = some i → N[i]? = some x
  | [], _, _, h => by cases h
  | y :: r, x, i, h => by
    unfold ixOf at h
    split at h
    · rename_i e
      cases h
      rw [e]
      rfl
    · cases q : ixOf r x with
      | none => rw [q] at h; cases h
      | some j =>
        rw [q] at h
        cases h
        show r[j]? = some x
        exact ixOf_ok q
def kd (C : Ck) (x : Str) : Option NameKind := C.sc.names.lookup x
def okN (x : Str) : Bool := !(x == ("__debug__" : Str)) && (!(x == ("__classdict__" : Str)) && decide (x ≠ "__name__"))
theorem okN_ok {x : Str} (h : okN x = true) : (x == ("__debug__" : Str)) = false ∧ (x == ("__classdict__" : Str)) = false ∧ x ≠ "__name__" := by
  unfold okN at h
  rw [Bool.and_eq_true, Bool.and_eq_true, Bool.not_eq_true', Bool.not_eq_true', decide_eq_true_eq] at h
  exact h
def visB (C : Ck) (x : Str) : Bool := okN x && (decide (kd C x = some .local) || (decide (kd C x = some .cell) || decide (kd C x = some .free)))
def glB (C : Ck) (x : Str) : Bool := okN x && decide (kd C x = some .globalImplicit)
def frB (C : Ck) (x : Str) : Bool := glB C x && decide (x ∈ C.free)
def asgB (C : Ck) (x : Str) : Bool := okN x && (decide (kd C x = some .local) || (decide (kd C x = some .cell) && C.fnB x))
theorem visB_ok (G : Good C X ex k Wx) {x : Str} (h : visB C x = true) : Vis X.env.scope x ∧ (x == ("__debug__" : Str)) = false ∧ (x == ("__classdict__" : Str)) = false := by
  unfold visB at h
  rw [Bool.and_eq_true, Bool.or_eq_true, Bool.or_eq_true, decide_eq_true_eq, decide_eq_true_eq, decide_eq_true_eq] at h
  obtain ⟨h1, h2, _⟩ := okN_ok h.1
  refine ⟨?_, h1, h2⟩
  unfold Vis
  rw [G.sc]
  exact h.2
theorem glB_ok (G : Good C X ex k Wx) {x : Str} (h : glB C x = true) : Gl X x ∧ (x == ("__debug__" : Str)) = false ∧ x ≠ "__name__" := by
  unfold glB at h
  rw [Bool.and_eq_true, decide_eq_true_eq] at h
  obtain ⟨h1, _, h2⟩ := okN_ok h.1
  refine ⟨?_, h1, h2⟩
  show X.env.scope.names.lookup x = _
  rw [G.sc]
  exact h.2
theorem frB_ok (G : Good C X ex k Wx) {x : Str} (h : frB C x = true) : Gl X x ∧ X.mg x = none ∧ (x == ("__debug__" : Str)) = false ∧ x ≠ "__name__" := by
  unfold frB at h
  rw [Bool.and_eq_true, decide_eq_true_eq] at h
  obtain ⟨h1, h2, h3⟩ := glB_ok G h.1
  exact ⟨h1, G.free x h.2, h2, h3⟩
theorem asgB_ok (G : Good C X ex k Wx) {x : Str} (h : asgB C x = true) : L2.Loc X.env.scope x ∧ (X.fn x = true ∨ X.env.scope.names.lookup x = some .local) := by
  unfold asgB at h
  rw [Bool.and_eq_true, Bool.or_eq_true, Bool.and_eq_true, decide_eq_true_eq, decide_eq_true_eq] at h
  unfold L2.Loc
  rw [G.sc, G.fn]
  rcases h.2 with q | ⟨q, r⟩
  · exact ⟨.inl q, .inr q⟩
  · exact ⟨.inr q, .inl r⟩
/-- no star ahead of an argument -/
def nst : Expr → Bool
  | .Starred _ _ => false
  | _ => true
theorem star1 {e : Expr} {es : List Expr} {env : Env} (h : nst e = true) : starEach (e :: es) env = (false, eval e env) :: starEach es env := by
  cases e <;> first | rfl | cases h
theorem stars {es : List Expr} {env : Env} {pos : Pos} (h : es.all nst = true) : (backTo pos (starEach es env)).any (·.1) = false := by
  induction es with
  | nil => rfl
  | cons e r ih =>
    rw [List.all_cons, Bool.and_eq_true] at h
    rw [star1 h.1]
    show (false || (backTo pos (starEach r env)).any (·.1)) = false
    rw [Bool.false_or]
    exact ih h.2
/-- a Python list of expressions that are no slices, and so on -/
def nSl : Expr → Bool
  | .Slice _ _ _ _ => false
  | _ => true
theorem plain_ix {b : Expr} (h : nSl b = true) : PlainIx b := by
  cases b <;> first | (intro o i; rfl) | cases h
def nSet : Expr → Bool
  | .Set _ _ _ => false
  | _ => true
theorem mark_no {op : CmpOp} {b : Expr} (h : nSet b = true) : behindInMarks op b = false := by
  cases b <;> first | rfl | cases h
theorem fold_no {b : Expr} {env : Env} (h : nSet b = true) : ∀ x, foldedSetIterable b env x = pure x := by
  cases b <;> first | (intro x; rfl) | cases h
def nCl : Expr → Bool
  | .Call _ _ _ _ => false
  | _ => true
theorem base_no {o : Expr} {a : Str} {env : Env} {w : Sem Value} (h : nCl o = true) : attributeBase o a env w = w := by
  cases o <;> first | rfl | cases h
def nCo : Expr → Bool
  | .ListComp _ _ _ _ => false
  | .SetComp _ _ _ _ => false
  | .DictComp _ _ _ _ _ => false
  | _ => true
theorem swap_no {e : Expr} {t : Option Expr} {n : Nat} {env : Env} (h : nCo e = true) : swapsWith e t n env = pure false := by
  cases e <;> first | rfl | cases h
theorem swap_sub {e o i : Expr} {p : Pos} {n : Nat} {env : Env} : swapsWith e (some (.Subscript o i p)) n env = pure false := by
  cases e <;> rfl
theorem swap_tup {e : Expr} {ts : List Expr} {q : Nat} {p : Pos} {n : Nat} {env : Env} : swapsWith e (some (.Tuple ts q p)) n env = pure false := by
  cases e <;> rfl
/-- tests that are looked at as values -/
def tvB : Expr → Bool
  | .Name _ _ => true
  | .Call _ _ _ _ => true
  | .Constant _ _ _ => true
  | .Subscript _ _ _ => true
  | _ => false
theorem tv_ok {a : Expr} {env : Env} (h : tvB a = true) : ∀ whole, isTrue a env whole = (do let v ← whole; standAt a.pos; holding [v] (truthy v)) := by
  cases a <;> first | (intro w; rfl) | cases h

/-! ## operators, built-ins -/
def binG : Operator → Option Fn2
  | .Add => some (lift2 1 addP)
  | .Sub => some (lift2 1 subP)
  | .Mult => some (lift2 1 mulP)
  | .FloorDiv => some (lift2 1 fdivP)
  | .Mod => some (lift2 1 modP)
  | _ => none
theorem binG_ok {op : Operator} {g : Fn2} (h : binG op = some g) : OpR X (binaryOp op) (rd2 (kxOf X ex) g) := by
  cases op <;> first | (cases h; done) | (cases h; first | exact o_add | exact o_sub | exact o_mul | exact o_fdiv | exact o_mod)
def cmpG : CmpOp → Option Fn2
  | .Eq => some (lift2 3 eqP)
  | .NotEq => some (lift2 3 neP)
  | .Lt => some (lift2 3 ltP)
  | .Gt => some (lift2 3 gtP)
  | .LtE => some (lift2 3 leP)
  | .GtE => some (lift2 3 geP)
  | .In => some (lift2 3 (inP false))
  | .NotIn => some (lift2 3 (inP true))
  | .Is => some (lift2 1 (isP false))
  | .IsNot => some (lift2 1 (isP true))
theorem cmpG_ok {op : CmpOp} {g : Fn2} (hu : X.A.units + 64 < cLine) (h : cmpG op = some g) : OpR X (compareOp op) (rd2 (kxOf X ex) g) := by
  cases op <;> (cases h; first | exact o_eq hu | exact o_ne hu | exact o_lt hu | exact o_gt hu | exact o_le hu | exact o_ge hu | exact o_in hu | exact o_notin hu | exact o_is | exact o_isnot)
def bu1 (x : Str) : Option FnL :=
  if x = "len" then some (gL1 lenG)
  else if x = "abs" then some (gL1 (lift1 1 absP))
  else if x = "int" then some (gL1 (lift1 1 intP))
  else if x = "all" then some (gL1 (lift1 1 allP))
  else if x = "any" then some (gL1 (lift1 1 anyP))
  else if x = "sum" then some (gL1 (lift1 1 sumP))
  else if x = "tuple" then some (gL1 (lift1 1 tupP))
  else if x = "list" then some (gL1 (lift1 1 lstP))
  else if x = "max" then some (gL1 (lift1 1 (best1 true)))
  else if x = "min" then some (gL1 (lift1 1 (best1 false)))
  else if x = "sorted" then some (gL1 sortF)
  else if x = "set" then some (gL1 setF)
  else if x = "dict" then some (gL1 dictF)
  else none
def bu2 (x : Str) : Option FnL :=
  if x = "max" then some (gL2 (lift2 1 max2P))
  else if x = "min" then some (gL2 (lift2 1 min2P))
  else none
theorem bu1_ok (G : Good C X ex k Wx) {x : Str} {g : FnL} (h : bu1 x = some g) {ms : Env' → M (List D)} {e : Expr} {es : List Expr} {pos p : Pos} (ha : PA X (e :: es) (rdA (kxOf X ex) ms Wx)) (hx : frB C x = true) (hn : (e :: es).all nst = true) :
    PE X (.Call (.Name x p) (e :: es) [] pos) (rdE (kxOf X ex) (mL ms g) Wx) := by
  obtain ⟨g1, g2, g3, g4⟩ := frB_ok G hx
  rw [List.all_cons, Bool.and_eq_true] at hn
  have hu := G.room.units
  have hc := G.calm
  unfold bu1 at h
  by_cases qlen : x = "len"
  · rw [if_pos qlen] at h
    cases h
    subst qlen
    exact r_callB c_len g1 g2 (by decide +kernel) ha g4 g3 (star1 hn.1) (stars hn.2)
  rw [if_neg qlen] at h
  by_cases qabs : x = "abs"
  · rw [if_pos qabs] at h
    cases h
    subst qabs
    exact r_callB c_abs g1 g2 PyProof.Rows.boot_abs ha g4 g3 (star1 hn.1) (stars hn.2)
  rw [if_neg qabs] at h
  by_cases qint : x = "int"
  · rw [if_pos qint] at h
    cases h
    subst qint
    exact r_callTy c_int g1 g2 PyProof.Rows.boot_int ha g4 g3 (star1 hn.1) (stars hn.2)
  rw [if_neg qint] at h
  by_cases qall : x = "all"
  · rw [if_pos qall] at h
    cases h
    subst qall
    exact r_callB (c_all hc) g1 g2 PyProof.Rows.boot_all ha g4 g3 (star1 hn.1) (stars hn.2)
  rw [if_neg qall] at h
  by_cases qany : x = "any"
  · rw [if_pos qany] at h
    cases h
    subst qany
    exact r_callB (c_any hc) g1 g2 PyProof.Rows.boot_any ha g4 g3 (star1 hn.1) (stars hn.2)
  rw [if_neg qany] at h
  by_cases qsum : x = "sum"
  · rw [if_pos qsum] at h
    cases h
    subst qsum
    exact r_callB (c_sum hc) g1 g2 PyProof.Rows.boot_sum ha g4 g3 (star1 hn.1) (stars hn.2)
  rw [if_neg qsum] at h
  by_cases qtuple : x = "tuple"
  · rw [if_pos qtuple] at h
    cases h
    subst qtuple
    exact r_callTy c_tuple g1 g2 PyProof.Rows.boot_tuple ha g4 g3 (star1 hn.1) (stars hn.2)
  rw [if_neg qtuple] at h
  by_cases qlist : x = "list"
  · rw [if_pos qlist] at h
    cases h
    subst qlist
    exact r_callTy c_list g1 g2 PyProof.Rows.boot_list ha g4 g3 (star1 hn.1) (stars hn.2)
  rw [if_neg qlist] at h
  by_cases qmax : x = "max"
  · rw [if_pos qmax] at h
    cases h
    subst qmax
    exact r_callB (c_best hc hu true) g1 g2 PyProof.Rows.boot_max ha g4 g3 (star1 hn.1) (stars hn.2)
  rw [if_neg qmax] at h
  by_cases qmin : x = "min"
  · rw [if_pos qmin] at h
    cases h
    subst qmin
    exact r_callB (c_best hc hu false) g1 g2 PyProof.Rows.boot_min ha g4 g3 (star1 hn.1) (stars hn.2)
  rw [if_neg qmin] at h
  by_cases qsorted : x = "sorted"
  · rw [if_pos qsorted] at h
    cases h
    subst qsorted
    exact r_callB (c_sortedG hc hu) g1 g2 PyProof.Rows.boot_sorted ha g4 g3 (star1 hn.1) (stars hn.2)
  rw [if_neg qsorted] at h
  by_cases qset : x = "set"
  · rw [if_pos qset] at h
    cases h
    subst qset
    exact r_callTy (c_set hc hu) g1 g2 PyProof.Rows.boot_set ha g4 g3 (star1 hn.1) (stars hn.2)
  rw [if_neg qset] at h
  by_cases qdict : x = "dict"
  · rw [if_pos qdict] at h
    cases h
    subst qdict
    exact r_callTy (c_dict hc hu) g1 g2 PyProof.Rows.boot_dict ha g4 g3 (star1 hn.1) (stars hn.2)
  rw [if_neg qdict] at h
  cases h
theorem bu2_ok (G : Good C X ex k Wx) {x : Str} {g : FnL} (h : bu2 x = some g) {ms : Env' → M (List D)} {e : Expr} {es : List Expr} {pos p : Pos} (ha : PA X (e :: es) (rdA (kxOf X ex) ms Wx)) (hx : frB C x = true) (hn : (e :: es).all nst = true) :
    PE X (.Call (.Name x p) (e :: es) [] pos) (rdE (kxOf X ex) (mL ms g) Wx) := by
  obtain ⟨g1, g2, g3, g4⟩ := frB_ok G hx
  rw [List.all_cons, Bool.and_eq_true] at hn
  have hu := G.room.units
  have hc := G.calm
  unfold bu2 at h
  by_cases qmax : x = "max"
  · rw [if_pos qmax] at h
    cases h
    subst qmax
    exact r_callB (c_max2 hc) g1 g2 PyProof.Rows.boot_max ha g4 g3 (star1 hn.1) (stars hn.2)
  rw [if_neg qmax] at h
  by_cases qmin : x = "min"
  · rw [if_pos qmin] at h
    cases h
    subst qmin
    exact r_callB (c_min2 hc) g1 g2 PyProof.Rows.boot_min ha g4 g3 (star1 hn.1) (stars hn.2)
  rw [if_neg qmin] at h
  cases h
def clOf (y : Str) : Option Cl := if y = "int" then some .int else if y = "bool" then some .bool else if y = "str" then some .str else if y = "tuple" then some .tup else if y = "list" then some .lst else none
theorem clOf_ok {y : Str} {c : Cl} (h : clOf y = some c) : bootBuiltins y = some (.type c.nm) := by
  unfold clOf at h
  by_cases qint : y = "int"
  · rw [if_pos qint] at h
    cases h
    subst qint
    exact PyProof.Rows.boot_int
  rw [if_neg qint] at h
  by_cases qbool : y = "bool"
  · rw [if_pos qbool] at h
    cases h
    subst qbool
    exact PyProof.Rows.boot_bool
  rw [if_neg qbool] at h
  by_cases qstr : y = "str"
  · rw [if_pos qstr] at h
    cases h
    subst qstr
    exact PyProof.Rows.boot_str
  rw [if_neg qstr] at h
  by_cases qtuple : y = "tuple"
  · rw [if_pos qtuple] at h
    cases h
    subst qtuple
    exact PyProof.Rows.boot_tuple
  rw [if_neg qtuple] at h
  by_cases qlist : y = "list"
  · rw [if_pos qlist] at h
    cases h
    subst qlist
    exact PyProof.Rows.boot_list
  rw [if_neg qlist] at h
  cases h
end
end Fw
set_option Elab.async false
set_option linter.all false
set_option maxRecDepth 100000
set_option maxHeartbeats 4000000
namespace Fw
open PySem PySem.Spec PyProof.Rows L2
section
variable {X : Cx} {κ : Kx} {Wx : WX} {ex : Nat → Addr}
/-! ## a comprehension over a name, maybe a dict's -/
def pureE (env : Env') : Env' := env.map fun o => match o with
  | some (.p x) => some (.p x)
  | _ => none
theorem pureE_rel {w w' : Wd} {env : Env'} {σ : L2.St} (hE : RelE κ w env σ) (hW : w'.W = w.W) : RelE κ w' (pureE env) σ := by
  refine ⟨by unfold pureE; rw [List.length_map]; exact hE.1, fun i d e => ?_⟩
  unfold pureE at e
  rw [List.getElem?_map] at e
  cases q : env[i]? with
  | none => rw [q] at e; cases e
  | some o =>
    rw [q] at e
    cases o with
    | none => cases e
    | some z =>
      cases z with
      | loc n => cases e
      | p x =>
        cases e
        obtain ⟨v, h1, h2⟩ := hE.2 i _ q
        refine ⟨v, h1, ?_⟩
        show Dq κ.K w'.W v x
        rw [hW]
        exact h2
def mCompV (mu : Bool) (i : Nat) (g : G) (own : List Nat) (t : Env' → M Bool) (m : Env' → M D) : Env' → M D := fun env st => match env[i]?.bind id with
  | some (.loc n) => (match st[n]? with
    | some (.dT kvs) => (match dKeys kvs with
      | some ks => (match compR 1000000 (pureE env) g own (bodyC t m) (.fix (ks.map fun k => .p (tupI k))) [] with
        | .ok ds [] => (match pures ds with
          | some xs => .ok (.p (.list xs)) st
          | none => .bad)
        | _ => .bad)
      | none => .bad)
    | _ => mComp mu (iSeq (mVar i)) g own t m env st)
  | _ => mComp mu (iSeq (mVar i)) g own t m env st
theorem serves_keys {w : Wd} {S : Hp} {a : Addr} {od : Obj} {vs : List (List Key × V)} {ks : List (List Int)} (hk : vs.map (·.1) = ks.map fun k => k.map Sum.inl) (hS : S a = some (.frz od (.dT vs))) : Serves κ w S (.fix (ks.map fun k => .p (tupI k))) (Itkt a od vs) where
  go := fun i w1 st H ds le hT hH hc hi => by
    cases hc
    have hl : vs.length = ks.length := by
      have := congrArg List.length hk
      simpa using this
    exact ⟨hH.tmp a _ (hT a _ hS), by rw [hl]; simpa using hi⟩
  stop := fun i w1 st H ds le hT hH hc hi => by
    cases hc
    have hl : vs.length = ks.length := by
      have := congrArg List.length hk
      simpa using this
    exact ⟨hH.tmp a _ (hT a _ hS), by rw [hl]; simpa using hi⟩
  yld := fun i w1 st H H' ds d x le hT hH hc hd hy => by
    cases hc
    obtain ⟨rfl, k, v, q, e1, rfl, hq⟩ := hy
    rw [List.getElem?_map] at hd
    cases qk : ks[i]? with
    | none => rw [qk] at hd; cases hd
    | some kk =>
      rw [qk] at hd
      cases hd
      have e2 : (vs.map (·.1))[i]? = some k := by rw [List.getElem?_map, e1]; rfl
      rw [hk, List.getElem?_map, qk] at e2
      have e3 : kk.map Sum.inl = k := Option.some.inj e2
      rw [← e3, kV_ints] at hq
      obtain ⟨w2, le2, hH2, hw2⟩ := Hold.adopt hH (fun b => b = q) fun b e => ⟨kk.map V.int, by rw [e]; exact hq⟩
      exact ⟨w2, le2, hH2, .tup (SqT.of (hw2 q _ rfl hq)) (ints_dq kk)⟩
theorem r_compV {mu : Bool} {i : Nat} {x : Str} {elt tg : Expr} {ifs : List Expr} {scope : Scope} {own : List (Str × Nat)} {p pos : Pos} {g : G} {t : Env' → M Bool} {m : Env' → M D} (hc : X.calm = true) (hN : X.N.Nodup) (hv : PE X (.Name x p) (tVar i)) (ok : BlkOk X.N X.env.scope scope own) (hgx : ∀ i ∈ gIx g, i ∈ own.map (·.2))
    (hg : ∀ (s : Shared) (H : Hp) (C : Addr) (cl : List (Str × Addr)) (fp : List Addr), PG (X.blk s H scope (compEnvC scope cl C X.env) fp) tg (rdG (kxOf X ex) g)) (ht : ∀ (s : Shared) (H : Hp) (C : Addr) (cl : List (Str × Addr)) (fp : List Addr), PTs (X.blk s H scope (compEnvC scope cl C X.env) fp) ifs (rdT (kxOf X ex) t FW))
    (he : ∀ (s : Shared) (H : Hp) (C : Addr) (cl : List (Str × Addr)) (fp : List Addr), PE (X.blk s H scope (compEnvC scope cl C X.env) fp) elt (rdE (kxOf X ex) m FW)) :
    PE X (.ListComp elt [⟨tg, .Name x p, ifs, 0⟩] scope pos) (rdE (kxOf X ex) (mCompV mu i g (own.map (·.2)) t m) Wx) := by
  have hs : ∀ z, foldedSetIterable (.Name x p) X.env z = pure z := fun _ => rfl
  have base := r_comp (Wx := Wx) (ex := ex) (mu := mu) (pos := pos) hc hN (r_iseq (Wx := Wx) (ex := ex) (r_var (κ := kxOf X ex) hv)) ok hgx hg ht he hs
  have lock := pe_lock (pe_lc (pos := pos) hc hN (pi_keys (tg := tg) hv) ok hg ht he hs)
  refine ⟨fun pins s σ H Q I hw => ?_⟩
  obtain ⟨w, env, st, hE, hH, hp⟩ := hw
  have alt : PostG (kxOf X ex) Wx σ w (mComp mu (iSeq (mVar i)) g (own.map (·.2)) t m env st) (CV (kxOf X ex) Q) → wpAny (model X.prog X.w) X.A (eval (.ListComp elt [⟨tg, .Name x p, ifs, 0⟩] scope pos) X.env) (EP X pins σ Q) X.xe s := fun h => base.run pins s σ H Q I ⟨w, env, st, hE, hH, h⟩
  unfold mCompV at hp
  split at hp
  · rename_i n qn
    split at hp
    · rename_i kvs qd
      split at hp
      · rename_i ks qk
        split at hp
        · rename_i ds qc
          split at hp
          · rename_i xs qx
            have en : env[i]? = some (some (.loc n)) := by
              cases z : env[i]? with
              | none => rw [z] at qn; cases qn
              | some o => rw [z] at qn; have q' : o = some (.loc n) := qn; rw [q']
            obtain ⟨v, hv1, a, rfl, ha⟩ := hE.2 i _ en
            obtain ⟨ob, hob, vs, rfl, hk1, hk2⟩ := hH.obs n a _ ha qd
            have hkk : vs.map (·.1) = ks.map fun k => k.map Sum.inl := by rw [hk1]; exact dKeys_eq qk
            have maL : a ∈ w.L := List.mem_of_getElem? ha
            have eds := pures_eq qx
            subst eds
            refine lock.run pins s σ H Q I ⟨a, .dT vs, hob, True.intro, fun od => ?_⟩
            classical
            let Tk : Hp := fun b => if b = a then some (.frz od (.dT vs)) else if b ∈ w.L then H b else w.T b
            let wk : Wd := ⟨w.W, [], Tk⟩
            have Ta : Tk a = some (.frz od (.dT vs)) := if_pos rfl
            have TL : ∀ b, b ≠ a → b ∈ w.L → Tk b = H b := fun b h1 h2 => by show (if b = a then _ else if b ∈ w.L then _ else _) = _; rw [if_neg h1, if_pos h2]
            have TT : ∀ b, b ≠ a → b ∉ w.L → Tk b = w.T b := fun b h1 h2 => by show (if b = a then _ else if b ∈ w.L then _ else _) = _; rw [if_neg h1, if_neg h2]
            have hk0 : HoldK (kxOf X ex) wk [] (upd H a (.frz od (.dT vs))) := by
              refine ⟨fun b o e => ?_, rfl, fun n b c e1 e2 => (by simp at e2), List.nodup_nil, fun b m => (by cases m), fun n b e => (by simp at e), fun b o e => ?_, fun b o e => ⟨?_, List.not_mem_nil⟩, fun b ys e => ?_⟩
              · obtain ⟨e1, e2⟩ := hH.imm b o e
                have nb : b ≠ a := fun z => by
                  subst z
                  have e' : w.W b = some o := e
                  rw [hH.ap b maL] at e'
                  cases e'
                exact ⟨by rw [upd_ne nb]; exact e1, e2⟩
              · have e' : Tk b = some o := e
                by_cases h1 : b = a
                · subst h1
                  rw [Ta] at e'
                  rw [upd_same]
                  exact e'
                · rw [upd_ne h1]
                  by_cases h2 : b ∈ w.L
                  · rw [TL b h1 h2] at e'; exact e'
                  · rw [TT b h1 h2] at e'; exact hH.tmp b o e'
              · have e' : Tk b = some o := e
                show w.W b = none
                by_cases h1 : b = a
                · subst h1; exact hH.ap b maL
                · by_cases h2 : b ∈ w.L
                  · exact hH.ap b h2
                  · rw [TT b h1 h2] at e'; exact (hH.tw b o e').1
              · have e' : Tk b = some (.tup ys) := e
                by_cases h1 : b = a
                · subst h1
                  rw [Ta] at e'
                  cases e'
                · by_cases h2 : b ∈ w.L
                  · rw [TL b h1 h2] at e'
                    obtain ⟨j, hj⟩ := List.mem_iff_getElem?.mp h2
                    have hl : j < st.length := by rw [← hH.len]; exact (List.getElem?_eq_some_iff.mp hj).1
                    obtain ⟨o2, o3, o4⟩ := hH.obs j b st[j] hj (List.getElem?_eq_getElem hl)
                    rw [e'] at o3
                    cases o3
                    exact o4.notTup.1 ⟨ys, rfl⟩
                  · rw [TT b h1 h2] at e'
                    exact hH.tt b ys e'
            refine ⟨.ref a, hv1, a, od, rfl, .inr ⟨vs, upd_same, fun D nD => ?_⟩⟩
            have nT : Tk D = none := by
              cases q : Tk D with
              | none => rfl
              | some o => rw [hk0.tmp D o q] at nD; cases nD
            have hEk : RelE (kxOf X ex) wk (pureE env) σ := pureE_rel hE rfl
            unfold compR at qc
            have qs : srcLen (.fix (ks.map fun k => Fw.D.p (tupI k))) [] = some ks.length := by
              show some (ks.map fun k => Fw.D.p (tupI k)).length = _
              rw [List.length_map]
            rw [qs] at qc
            simp only at qc
            split at qc
            · rename_i hcap
              refine comp_loop (κ := kxOf X ex) (Wy := Wx) (σx := σ) (w1 := wk) (w := wk.tmp (upd Tk D (.lst []))) (T0 := Tk) (us0 := []) (ds0 := []) (st0 := []) (n := ks.length) (c := 1) (env := pureE env) (S := fun b => if b = a then some (.frz od (.dT vs)) else none)
                (C := fun r st2 w2 H2 => st2 = [] ∧ r = xs.map Fw.D.p) hgx (serves_keys hkk (if_pos rfl)) (fun b o e => ?_) nT (body_plain nT) hEk ⟨Wd.lc_tmp, rfl, Hold.tmp_new hk0 nD (fun _ z => nomatch z), .nil⟩ (by simp; omega) ?_ fun st4 w4 H4 ds4 us4 lc4 sd4 _ hq => ?_
              · split at e
                · rename_i hb; subst hb; cases e; exact Ta
                · cases e
              · rw [qc]
                exact fun w' H' _ _ => ⟨rfl, rfl⟩
              · obtain ⟨rfl, rfl⟩ := hq
                have t4 := sd4.t
                have h4 := sd4.h
                have neD : ∀ b, (∃ o, Tk b = some o) → b ≠ D := fun b ⟨o, e⟩ z => by rw [z, nT] at e; cases e
                have tT : ∀ b o, Tk b = some o → w4.T b = some o := fun b o e => by rw [t4, upd_ne (neD b ⟨o, e⟩)]; exact e
                have hD4 : w4.T D = some (.lst us4) := by rw [t4, upd_same]
                have e4a : H4 a = some (.frz od (.dT vs)) := h4.tmp a _ (tT a _ Ta)
                have aD : a ≠ D := neD a ⟨_, Ta⟩
                refine ⟨e4a, ?_⟩
                have lw : ∀ b o, w.W b = some o → w4.W b = some o ∧ b ≠ D := fun b o e => by
                  refine ⟨lc4.W b o (show wk.W b = some o from e), fun z => ?_⟩
                  have := (hk0.imm b o e).1
                  rw [z, nD] at this
                  cases this
                have hLH : ∀ b ∈ w.L, ∃ o, Tk b = some o := fun b hb => by
                  by_cases h1 : b = a
                  · subst h1; exact ⟨_, Ta⟩
                  · obtain ⟨j, hj⟩ := List.mem_iff_getElem?.mp hb
                    have hl : j < st.length := by rw [← hH.len]; exact (List.getElem?_eq_some_iff.mp hj).1
                    obtain ⟨o2, o3, _⟩ := hH.obs j b st[j] hj (List.getElem?_eq_getElem hl)
                    exact ⟨o2, by rw [TL b h1 hb]; exact o3⟩
                let w5 : Wd := ⟨upd w4.W D (.lst us4), w.L, w.T⟩
                have le5 : w.Le w5 := ⟨⟨fun b o e => by
                  show upd w4.W D _ b = _
                  rw [upd_ne (lw b o e).2]
                  exact (lw b o e).1, [], by simp [w5]⟩, rfl⟩
                have h5 : HoldK (kxOf X ex) w5 st (upd H4 a (.dT vs)) := by
                  refine ⟨fun b o e => ?_, hH.len, fun j b c e1 e2 => ?_, hH.nd, fun b m => ?_, hH.wf, fun b o e => ?_, fun b o e => ⟨?_, (hH.tw b o e).2⟩, hH.tt⟩
                  · have e' : upd w4.W D (.lst us4) b = some o := e
                    by_cases h1 : b = D
                    · subst h1
                      rw [upd_same] at e'
                      cases e'
                      exact ⟨by rw [upd_ne (Ne.symm aD)]; exact h4.tmp _ _ hD4, True.intro⟩
                    · rw [upd_ne h1] at e'
                      obtain ⟨e1, e2⟩ := h4.imm b o e'
                      have nb : b ≠ a := fun z => by
                        subst z
                        rw [(h4.tw b _ (tT b _ Ta)).1] at e'
                        cases e'
                      exact ⟨by rw [upd_ne nb]; exact e1, e2⟩
                  · obtain ⟨o2, o3, o4⟩ := hH.obs j b c e1 e2
                    refine ⟨o2, ?_, o4.mono le5.toLc⟩
                    by_cases h1 : b = a
                    · subst h1
                      rw [hob] at o3
                      cases o3
                      rw [upd_same]
                    · rw [upd_ne h1]
                      exact h4.tmp b o2 (tT b o2 (by rw [TL b h1 (List.mem_of_getElem? e1)]; exact o3))
                  · show upd w4.W D _ b = none
                    obtain ⟨o, ho⟩ := hLH b m
                    rw [upd_ne (neD b ⟨o, ho⟩)]
                    exact (h4.tw b o (tT b o ho)).1
                  · have nL := (hH.tw b o e).2
                    have nb : b ≠ a := fun z => nL (by rw [z]; exact maL)
                    rw [upd_ne nb]
                    exact h4.tmp b o (tT b o (by rw [TT b nb nL]; exact e))
                  · have nL := (hH.tw b o e).2
                    have nb : b ≠ a := fun z => nL (by rw [z]; exact maL)
                    have tb : Tk b = some o := by rw [TT b nb nL]; exact e
                    show upd w4.W D _ b = none
                    rw [upd_ne (neD b ⟨o, tb⟩)]
                    exact (h4.tw b o (tT b o tb)).1
                refine hp w5 _ le5 h5 _ (.lst (SqL.of upd_same) ?_)
                exact Dq.monoA (fun b o e => by
                  show upd w4.W D _ b = _
                  rw [upd_ne (fun z => by
                    subst z
                    rw [(h4.tw _ _ hD4).1] at e
                    cases e)]
                  exact e) _ _ sd4.rl.pure
            · cases qc
          · exact hp.elim
        · exact hp.elim
      · exact hp.elim
    · exact alt hp
  · exact alt hp

/-! ## d[k], k in d -/
def findX {α : Type} (kvs : List (List Key × α)) (k : List Key) : Option α := (kvs.find? fun q => decide (q.1 = k)).map (·.2)
theorem RP.val {K : PySem.W.Frag} {w : Wd} {k : List Key} : ∀ {l : List (List Key × PyData)} {m : List (List Key × V)}, RP K w l m → (findX l k = none ∧ valV m k = none) ∨ ∃ x v, findX l k = some x ∧ valV m k = some v ∧ Dq K w.W v x
  | _, _, .nil => .inl ⟨rfl, rfl⟩
  | _, _, .cons (k := j) (x := x) (v := v) (l := l) (m := m) d r => by
    by_cases e : j = k
    · refine .inr ⟨x, v, ?_, valV_pos e, d⟩
      unfold findX
      rw [List.find?_cons_of_pos (by simpa using e)]
      rfl
    · rw [valV_neg (p := (j, v)) (r := m) e]
      have e2 : findX ((j, x) :: l) k = findX l k := by
        unfold findX
        rw [List.find?_cons_of_neg (by simpa using e)]
      rw [e2]
      exact RP.val r
def getD : Fn2 := fun o i st => match o, i with
  | .loc n, .p k => (match st[n]?, asTI k with
    | some (.dT kvs), some ks => if ks ≠ [] then (findX kvs (keyI ks)).map fun x => (.p x, st) else none
    | _, _ => none)
  | _, _ => none
def hasW (c : Bool → Bool) : Fn2 := fun i o st => match o, i with
  | .loc n, .p k => (match st[n]?, asTI k with
    | some (.dT kvs), some ks => if ks ≠ [] then some (.p (.bool (c (findX kvs (keyI ks)).isSome)), st) else none
    | _, _ => none)
  | _, _ => none
def hasD : Fn2 := hasW fun b => b
def hasND : Fn2 := hasW fun b => !b
variable {o i : Expr} {mo mi : Env' → M D} {pos : Pos}
theorem dget_of {w : Wd} {st : Sto} {H : Hp} {n : Nat} {x : PyData} {vo vi : V} {kvs : List (List Key × PyData)} {ks : List Int} (hH : HoldK κ w st H) (r1 : RelD κ.K w (.loc n) vo) (r2 : RelD κ.K w (.p x) vi) (qd : st[n]? = some (.dT kvs)) (qk : asTI x = some ks) (hne : ks ≠ []) :
    ∃ (a b : Addr) (vs : List (List Key × V)), vo = .ref a ∧ vi = .ref b ∧ RP κ.K w kvs vs ∧ DGet H a (.ref b) (valV vs (keyI ks)) := by
  obtain ⟨a, rfl, hla⟩ := r1
  obtain ⟨ob, hob, vs, rfl, hk1, hk2⟩ := hH.obs n a _ hla qd
  have := asTI_eq qk
  subst this
  have r2' : Dq κ.K w.W vi (.tuple (ks.map .int)) := r2
  obtain ⟨c, us, rfl, s1, a1⟩ := Dq.tup_invS r2'
  have := Dq.ints a1
  subst this
  refine ⟨a, c, vs, rfl, rfl, RP.of hk1 hk2, DGet.t (k := keyI ks) hob ?_⟩
  unfold keyI
  rw [kV_ints]
  exact hH.wd (trk hH hne s1)
theorem r_dget (hu : X.A.units + 64 < cLine) (ho : PE X o (rdE (kxOf X ex) mo Wx)) (hi : PE X i (rdE (kxOf X ex) mi Wx)) (hs : NoSl i) : PE X (.Subscript o i pos) (rdE (kxOf X ex) (m2 mo mi getD) Wx) :=
  (pe_dget (by omega) ho hi hs).wk fun σ H Q h => by
    obtain ⟨w0, env0, st0, a0, b0, c0⟩ := rd_m2 h
    refine ⟨w0, env0, st0, a0, b0, c0.imp fun d st' w' H' le hh q v rv => ?_⟩
    obtain ⟨w1, env1, st1, a1, b1, c1⟩ := q v rv
    refine ⟨w1, env1, st1, a1, b1, c1.imp fun d st' w' H' le hh q u ru => ?_⟩
    obtain ⟨w2, x, y, st2, r1, r2, hH2, d', st3, e, fin⟩ := q u ru
    unfold getD at e
    split at e
    · rename_i n k
      split at e
      · rename_i kvs ks qd qk
        split at e
        · rename_i hne
          obtain ⟨a, b, vs, rfl, rfl, rp, g⟩ := dget_of (κ := kxOf X ex) hH2 r1 r2 qd qk hne
          rcases rp.val (k := keyI ks) with ⟨z, _⟩ | ⟨x, v, z1, z2, z3⟩
          · rw [z] at e; cases e
          · rw [z1] at e
            cases e
            exact ⟨a, v, rfl, by rw [← z2]; exact g, fin_here (κ := kxOf X ex) hH2 z3 fin⟩
        · cases e
      · cases e
    · cases e
theorem din_wk (c : Bool → Bool) {σ : L2.St} {H : Hp} {Q : V → Hp → Prop} (h : rdE (kxOf X ex) (m2 mi mo (hasW c)) Wx σ H Q) :
    rdE (kxOf X ex) mi Wx σ H fun y H1 => rdE (kxOf X ex) mo Wx σ H1 fun x H2 => ∃ a o, x = .ref a ∧ DGet H2 a y o ∧ Q (.bl (c o.isSome)) H2 := by
  obtain ⟨w0, env0, st0, a0, b0, c0⟩ := rd_m2 h
  refine ⟨w0, env0, st0, a0, b0, c0.imp fun d st' w' H' le hh q v rv => ?_⟩
  obtain ⟨w1, env1, st1, a1, b1, c1⟩ := q v rv
  refine ⟨w1, env1, st1, a1, b1, c1.imp fun d st' w' H' le hh q u ru => ?_⟩
  obtain ⟨w2, x, y, st2, r1, r2, hH2, d', st3, e, fin⟩ := q u ru
  unfold hasW at e
  split at e
  · rename_i n k
    split at e
    · rename_i kvs ks qd qk
      split at e
      · rename_i hne
        cases e
        obtain ⟨a, b, vs, rfl, rfl, rp, g⟩ := dget_of (κ := kxOf X ex) hH2 r2 r1 qd qk hne
        refine ⟨a, _, rfl, g, ?_⟩
        have es : (valV vs (keyI ks)).isSome = (findX kvs (keyI ks)).isSome := by
          rcases rp.val (k := keyI ks) with ⟨z1, z2⟩ | ⟨x, v, z1, z2, z3⟩
          · rw [z1, z2]; rfl
          · rw [z1, z2]; rfl
        rw [es]
        exact fin_here (κ := kxOf X ex) hH2 (.bl _) fin
      · cases e
    · cases e
  · cases e
theorem r_din (hu : X.A.units + 64 < cLine) (hi : PE X i (rdE (kxOf X ex) mi Wx)) (ho : PE X o (rdE (kxOf X ex) mo Wx)) (hm : behindInMarks .In o = false) : PE X (.Compare i [.In] [o] pos) (rdE (kxOf X ex) (m2 mi mo hasD) Wx) :=
  (pe_cmp (pc_din (by omega) hi ho) hm).wk fun σ H Q h => din_wk _ h
theorem r_dnin (hu : X.A.units + 64 < cLine) (hi : PE X i (rdE (kxOf X ex) mi Wx)) (ho : PE X o (rdE (kxOf X ex) mo Wx)) (hm : behindInMarks .NotIn o = false) : PE X (.Compare i [.NotIn] [o] pos) (rdE (kxOf X ex) (m2 mi mo hasND) Wx) :=
  (pe_cmp (pc_dnotin (by omega) hi ho) hm).wk fun σ H Q h => din_wk _ h
theorem r_tdin (hu : X.A.units + 64 < cLine) (hi : PE X i (rdE (kxOf X ex) mi Wx)) (ho : PE X o (rdE (kxOf X ex) mo Wx)) (hm : behindInMarks .In o = false) : PT X (.Compare i [.In] [o] pos) (rdT (kxOf X ex) (Fw.tB (m2 mi mo hasD)) Wx) :=
  (pt_cmp (pc_din (by omega) hi ho) hm).wk fun σ H Q h => by
    obtain ⟨w, env, st, hE, hH, hp⟩ := h
    exact din_wk (fun b => b) (rd_tbv hE hH hp)
theorem r_tdnin (hu : X.A.units + 64 < cLine) (hi : PE X i (rdE (kxOf X ex) mi Wx)) (ho : PE X o (rdE (kxOf X ex) mo Wx)) (hm : behindInMarks .NotIn o = false) : PT X (.Compare i [.NotIn] [o] pos) (rdT (kxOf X ex) (Fw.tB (m2 mi mo hasND)) Wx) :=
  (pt_cmp (pc_dnotin (by omega) hi ho) hm).wk fun σ H Q h => by
    obtain ⟨w, env, st, hE, hH, hp⟩ := h
    exact din_wk (fun b => !b) (rd_tbv hE hH hp)
end
end Fw
set_option Elab.async false
set_option linter.all false
set_option maxRecDepth 100000
set_option maxHeartbeats 4000000
namespace Fw
open PySem PySem.Spec PyProof.Rows L2

/-! ## l.extend(e) -/
section
open PySem.AutoSeq1
theorem ext_tuple (l : Addr) (items : Array Value) (n : Nat) (b : Addr) (items2 : Array Value) (hs0 : ¬(!items.isEmpty && Builtin.List.listTooLong (items.size + items2.size)) = true) (hs1 : items.size ≤ sizeLine) (hs2 : items.size + items2.size ≤ sizeLine + 1) :
    Meets (Builtin.«list.extend» ⟨[.ref l, .ref b], []⟩) (fun _ R s => s.heap.get? l = some { cls := .type "list", dict := none, data := .seq items n, slots := #[] } ∧ IsTup s.heap b items2 ∧ R (.ok (.ret Value.none)) { s with heap := s.heap.update l (Obj.mapSeq fun x => x ++ items2), toks := s.toks }) :=
  .of_wp fun prog w A R s h => by
    obtain ⟨hp, g, d, tk, os⟩ := s; obtain ⟨hl, ⟨⟨c, dd, dat, sl⟩, hb, hc, n2, hd⟩, h⟩ := h
    simp only at hc hd
    subst hc
    subst hd
    have f1 := idx_int; have f2 := AutoSeq1.sub_tuple_tuple; have f3 := AutoSeq1.sub_list_list; have f4 := AutoSeq1.sub_tuple_list; have f5 := AutoSeq1.sub_list_tuple;
    have hz' : (items ++ items2).size ≤ sizeLine + 1 := by rw [Array.size_append]; exact hs2
    wp_walk using (wpAny_updateSeq hl rfl (hz := hs1) (_hz' := hz')), wpAny_loadPart' hl, wpAny_loadPart' hb; exact ⟨_, rfl, h⟩
theorem ext_list (l : Addr) (items : Array Value) (n : Nat) (b : Addr) (items2 : Array Value) (hs0 : ¬(!items.isEmpty && Builtin.List.listTooLong (items.size + items2.size)) = true) (hs1 : items.size ≤ sizeLine) (hs2 : items.size + items2.size ≤ sizeLine + 1) :
    Meets (Builtin.«list.extend» ⟨[.ref l, .ref b], []⟩) (fun _ R s => s.heap.get? l = some { cls := .type "list", dict := none, data := .seq items n, slots := #[] } ∧ PlainL s.heap b items2 ∧ R (.ok (.ret Value.none)) { s with heap := s.heap.update l (Obj.mapSeq fun x => x ++ items2), toks := s.toks }) :=
  .of_wp fun prog w A R s h => by
    obtain ⟨hp, g, d, tk, os⟩ := s; obtain ⟨hl, ⟨⟨c, dd, dat, sl⟩, n2, hb, hc, hdi, hd⟩, h⟩ := h
    simp only at hc hd hdi
    subst hc
    subst hd
    subst hdi
    have f1 := idx_int; have f2 := AutoSeq1.sub_tuple_tuple; have f3 := AutoSeq1.sub_list_list; have f4 := AutoSeq1.sub_tuple_list; have f5 := AutoSeq1.sub_list_tuple;
    have hz' : (items ++ items2).size ≤ sizeLine + 1 := by rw [Array.size_append]; exact hs2
    wp_walk using (wpAny_updateSeq hl rfl (hz := hs1) (_hz' := hz')), wpAny_loadPart' hl, wpAny_loadPart' hb; exact ⟨_, rfl, h⟩
end
def rExt (K : PySem.W.Frag) : V → List V → Hp → VK → Prop := fun x vs H Q => ∃ l b xs zs, x = .ref l ∧ vs = [.ref b] ∧ H l = some (.lst xs) ∧ (SqT K H b zs ∨ SqL K H b zs) ∧ xs.length + zs.length ≤ sizeLine ∧ Q .non (upd H l (.lst (xs ++ zs)))
theorem mt_ext {X : Cx} : MtM X "list.extend" (rExt X.K) := by
  intro pins s σ H x vs v us Q I rx rv h
  obtain ⟨l, b, xs, zs, rfl, rfl, hH, hB, hz, q⟩ := h
  cases rx
  obtain ⟨u, rfl, ru⟩ := rv.one
  cases ru
  obtain ⟨z, its, n, r, hl, e⟩ := I.lstM hH
  rcases hB with hB | hB
  · obtain ⟨its2, r2, e2, z2⟩ := I.tuple hB
    have hl2 := r2.length
    have hsz : its.toArray.size + its2.toArray.size ≤ sizeLine := by rw [List.size_toArray, List.size_toArray]; omega
    have hlong : ¬ (!its.toArray.isEmpty && Builtin.List.listTooLong (its.toArray.size + its2.toArray.size)) = true := by
      rw [notLongL hsz, Bool.and_false]
      exact Bool.false_ne_true
    refine call_meets F.slot_list_extend ⟨_, e, rfl⟩ F.entry_list_extend (F.args_list_extend_2 _ _)
      (ext_tuple l its.toArray n b its2.toArray hlong (by rw [List.size_toArray]; omega) (by omega)) ⟨e, e2, ?_⟩
    refine ⟨.non, _, I.lset (its' := its ++ its2) hH e (by simp) (r.append r2) ?_, rfl, q⟩
    rw [List.length_append]
    omega
  · obtain ⟨its2, r2, e2, z2⟩ := I.list hB
    have hl2 := r2.length
    have hsz : its.toArray.size + its2.toArray.size ≤ sizeLine := by rw [List.size_toArray, List.size_toArray]; omega
    have hlong : ¬ (!its.toArray.isEmpty && Builtin.List.listTooLong (its.toArray.size + its2.toArray.size)) = true := by
      rw [notLongL hsz, Bool.and_false]
      exact Bool.false_ne_true
    refine call_meets F.slot_list_extend ⟨_, e, rfl⟩ F.entry_list_extend (F.args_list_extend_2 _ _)
      (ext_list l its.toArray n b its2.toArray hlong (by rw [List.size_toArray]; omega) (by omega)) ⟨e, e2, ?_⟩
    refine ⟨.non, _, I.lset (its' := its ++ its2) hH e (by simp) (r.append r2) ?_, rfl, q⟩
    rw [List.length_append]
    omega
def seqP : P → Option (List P)
  | .tuple ys => some ys
  | .list ys => some ys
  | _ => none
def extendG : D → List D → Sto → Option (D × Sto) := fun o xs st => match o, xs with
  | .loc n, [.p y] => (match st[n]?, seqP y with
    | some (.lst ds), some ys => if ds.length ≤ 1000000 ∧ ys.length ≤ 1000000 then some (.p .none, st.set n (.lst (ds ++ ys.map .p))) else none
    | _, _ => none)
  | _, _ => none
theorem seq_of {K : PySem.W.Frag} {H : Hp} {v : V} {y : P} {ys : List P} (h : seqP y = some ys) (r : Dq K H v y) : ∃ a vs, v = .ref a ∧ (SqT K H a vs ∨ SqL K H a vs) ∧ DqAll K H vs ys := by
  unfold seqP at h
  split at h
  · cases h
    obtain ⟨a, vs, h1, h2, h3⟩ := Dq.tup_inv r
    exact ⟨a, vs, h1, .inl h2, h3⟩
  · cases h
    obtain ⟨a, vs, h1, h2, h3⟩ := Dq.lst_inv r
    exact ⟨a, vs, h1, .inr h2, h3⟩
  · cases h
variable {X : Cx} {ex : Nat → Addr}
theorem m_extend : MtR X "list.extend" (rdM (kxOf X ex) extendG) := by
  intro pins s σ H x vs v us Q I rx rv h
  obtain ⟨w, d, xs, st, r1, rl, hH, d', st', e, fin⟩ := h
  unfold extendG at e
  split at e
  · rename_i n y
    split at e
    · rename_i ds ys q qy
      split at e
      · rename_i hi
        cases e
        obtain ⟨a, rfl, ha⟩ := r1
        obtain ⟨o, ho, vs', rfl, rl'⟩ := hH.obs n a _ ha q
        cases rl with
        | cons r2 r3 =>
          cases r3
          obtain ⟨b, us2, rfl, hs, hd⟩ := seq_of qy r2
          have hsH : SqT X.K H b us2 ∨ SqL X.K H b us2 := hs.imp (sqT_mono fun a o e => hH.wd e) (sqL_mono fun a o e => hH.wd e)
          refine mt_ext pins s σ H _ _ v us Q I rx rv ⟨a, b, vs', us2, rfl, rfl, ho, hsH, by rw [← rl'.length, DqAll.length hd, sizeLine_eq]; omega, ?_⟩
          have hw : Wf1 n (.lst (ds ++ ys.map .p)) := fun j m => by
            rcases List.mem_append.mp m with m | m
            · exact (wf_at hH q : Wf1 n (.lst ds)) j m
            · obtain ⟨_, _, m⟩ := List.mem_map.mp m
              cases m
          exact fin w _ .non (Wd.Le.refl w) (Hold.write hH ha ⟨_, rfl, RelL.app rl' (RelL.of hd)⟩ hw) .non
      · cases e
    · cases e
  · cases e
/-! ## x op= e, of ints -/
theorem io_int2 {op : Operator} {C : Int → Int → Prop} {g : Int → Int → Int} {f : PyData → PyData → Option PyData} (ho : OpR X (inplaceOp op) (rI C fun i j => .int (g i j)))
    (hf : ∀ a b r, f a b = some r → ∃ i j, a = .int i ∧ b = .int j ∧ C i j ∧ r = .int (g i j)) : PIp X op (rd2 (kxOf X ex) (lift2 1 f)) := by
  intro pins s σ H x y v u Q I rx ry h
  obtain ⟨w, d1, d2, st, r1, r2, hH, d, st', e, fin⟩ := h
  obtain ⟨a, b, r, e1, e2, e3, rfl, rfl⟩ := lift2_ok e
  have q1 := view1_ok hH r1 e1
  have q2 := view1_ok hH r2 e2
  obtain ⟨i, j, rfl, rfl, hc, rfl⟩ := hf a b r e3
  have q1' : Dq X.K w.W x (.int i) := q1
  have q2' : Dq X.K w.W y (.int j) := q2
  have z1 := Dq.int_inv q1'
  have z2 := Dq.int_inv q2'
  subst z1 z2
  exact ho pins s σ H _ _ v u Q I rx ry ⟨i, j, rfl, rfl, hc, fin_here (κ := kxOf X ex) hH (.int _) fin⟩
def addI : PyData → PyData → Option PyData
  | .int i, .int j => some (.int (i + j))
  | _, _ => none
def mulI : PyData → PyData → Option PyData
  | .int i, .int j => if mulOk i j = true then some (.int (i * j)) else none
  | _, _ => none
theorem io_add : PIp X .Add (rd2 (kxOf X ex) (lift2 1 addI)) := io_int2 (C := fun _ _ => True) (g := fun i j => i + j) (iop_add.wk fun _ _ _ _ ⟨i, j, a, b, _, q⟩ => ⟨i, j, a, b, q⟩) fun a b r h => by
  unfold addI at h
  split at h
  · cases h; exact ⟨_, _, rfl, rfl, trivial, rfl⟩
  · cases h
theorem io_sub : PIp X .Sub (rd2 (kxOf X ex) (lift2 1 subP)) := io_int2 (C := fun _ _ => True) (g := fun i j => i - j) (iop_sub.wk fun _ _ _ _ ⟨i, j, a, b, _, q⟩ => ⟨i, j, a, b, q⟩) fun a b r h => by
  unfold subP at h
  split at h
  · cases h; exact ⟨_, _, rfl, rfl, trivial, rfl⟩
  · cases h
theorem iop_mulW : OpR X (inplaceOp .Mult) (rI CMulW fun i j => .int (i * j)) := opI fun _ _ _ _ _ _ _ hc q => imul_int q hc.ok
theorem iop_floorW : OpR X (inplaceOp .FloorDiv) (rI (fun _ j => j ≠ 0 ∧ j.natAbs.log2 < 9000) fun i j => .int (i.fdiv j)) := opI fun i j _ _ _ _ _ hc q => ifloordiv_int hc.1 q (.inl (PyProof.noPylong_of_log2 hc.2))
theorem io_mul : PIp X .Mult (rd2 (kxOf X ex) (lift2 1 mulI)) := io_int2 iop_mulW fun a b r h => by
  unfold mulI at h
  split at h
  · split at h
    · rename_i hm
      cases h; exact ⟨_, _, rfl, rfl, (of_decide_eq_true hm : _ + _ < 1000000), rfl⟩
    · cases h
  · cases h
theorem io_fdiv : PIp X .FloorDiv (rd2 (kxOf X ex) (lift2 1 fdivP)) := io_int2 iop_floorW fun a b r h => by
  unfold fdivP at h
  split at h
  · split at h
    · cases h; exact ⟨_, _, rfl, rfl, by assumption, rfl⟩
    · cases h
  · cases h
def iopG : Operator → Option Fn2
  | .Add => some (lift2 1 addI)
  | .Sub => some (lift2 1 subP)
  | .Mult => some (lift2 1 mulI)
  | .FloorDiv => some (lift2 1 fdivP)
  | _ => none
theorem iopG_ok {op : Operator} {g : Fn2} (h : iopG op = some g) : PIp X op (rd2 (kxOf X ex) g) := by
  unfold iopG at h
  split at h
  · cases h; exact io_add
  · cases h; exact io_sub
  · cases h; exact io_mul
  · cases h; exact io_fdiv
  · cases h
end Fw
set_option Elab.async false
set_option linter.all false
set_option maxRecDepth 100000
set_option maxHeartbeats 4000000
/-! enumerate of a list, of a tuple -/
namespace PySem
theorem fw_meets_enumB {v : Value} {o : Obj} {H : Heap → Prop} (B : Begins v o H) :
    Meets (Builtin.«enumerate.__new__» ⟨[.type "enumerate", v], []⟩) (fun _ R s => H s.heap ∧
      R (.ok (.ret (.ref (s.heap.push o).objs.size))) { s with heap := (s.heap.push o).push { cls := .type "enumerate", data := .fields #[.none, .bool false, .ref s.heap.objs.size, rawInt 0, .none, .none] } }) :=
  .of_wp fun prog w A R s h => by
    obtain ⟨hp, g, d, tk, os⟩ := s; obtain ⟨h1, h⟩ := h
    have hsub := sub_enumerate
    have q1 : ∀ {A' : Around} {E : Value → Shared → Prop} {Q : Value → Shared → Prop}, Q (.ref hp.objs.size) ⟨hp.push o, g, d, tk, os⟩ → wpAny (model prog w) A' (pyIter v) Q E ⟨hp, g, d, tk, os⟩ :=
      fun q => B.iter prog w _ _ ⟨hp, g, d, tk, os⟩ _ h1 q
    wp_walk using q1
    refine wpAny_stack_any fun st => wpAny_pure ?_
    split
    · rename_i c _ _ _ _ _
      cases (c == Value.type "enumerate")
      · wp_walk using q1
        exact ⟨_, rfl, h⟩
      · wp_walk using q1
        exact ⟨_, rfl, h⟩
    · wp_walk using q1
      exact ⟨_, rfl, h⟩
theorem fw_call_enumB {prog : Program} {w : World} {A : Around} {E : Value → Shared → Prop} {s : Shared} {v : Value} {o : Obj} {H : Heap → Prop} {Q : Value → Shared → Prop} (B : Begins v o H) (h1 : H s.heap)
    (h : ∀ h', IsEnum h' (s.heap.objs.size + 1) s.heap.objs.size 0 .none → h'.get? s.heap.objs.size = some o → h'.objs.size = s.heap.objs.size + 2 →
      (∀ b o, s.heap.get? b = some o → h'.get? b = some o) → Q (.ref (s.heap.objs.size + 1)) { s with heap := h' }) :
    wpAny (model prog w) A (call (.type "enumerate") [v]) Q E s := by
  refine callType_new F.called_enumerate (by decide) (F.typeCall_enumerate_1 _) (F.newCall_enumerate_1 _) (fun obj => F.args_object_init_2 obj _) F.entry_enumerate_new
    (fw_meets_enumB B) ⟨h1, ?_⟩
  have hz : (s.heap.push o).objs.size = s.heap.objs.size + 1 := Heap.size_push ..
  show _ ∧ _
  rw [hz]
  have he : IsEnum ((s.heap.push o).push { cls := .type "enumerate", data := .fields #[.none, .bool false, .ref s.heap.objs.size, rawInt 0, .none, .none] }) (s.heap.objs.size + 1) s.heap.objs.size 0 .none := by
    have := Heap.get?_push_size (s.heap.push o) (o := { cls := .type "enumerate", data := .fields #[.none, .bool false, .ref s.heap.objs.size, rawInt 0, .none, .none] }) rfl
    rw [hz] at this; exact this
  refine ⟨⟨_, he, rfl⟩, h _ he (Heap.get?_push_of_some _ (Heap.get?_push_size _ B.free)) (by rw [Heap.size_push, hz]) fun b o x => Heap.get?_push_of_some _ (Heap.get?_push_of_some _ x)⟩
theorem fw_enum_endT {prog : Program} {w : World} {A : Around} {E : Value → Shared → Prop} {s : Shared} {e it a : Addr} {i : Nat} {items : Array Value} {old : Value} {Q : Option Value → Shared → Prop} (hh : A.handled = none)
    (he : IsEnum s.heap e it i old) (hit : s.heap.IsTupleIter it a i) (hl : s.heap.IsTuple a items) (hx : items[i]? = none)
    (hQ : ∀ h', Heap.ExtBut it s.heap h' → Q none { s with heap := h' }) : wpAny (model prog w) A (pyNext (.ref e)) Q E s := by
  have hT : s.TypeIs (.ref e) "enumerate" := ⟨_, he, rfl⟩
  unfold pyNext
  refine wpAny_bind (wpAny_attempt (wpAny_callSpecial?_slot (name := Str.ofString "__next__") hT F.slot_enumerate_next
    (wpAny_call_entry F.slot_enumerate_next hT F.entry_enumerate_next ?_ (F.args_enumerate_next_1 _))))
  show wpAny _ _ (field (.ref e) 2 >>= _) _ _ _
  refine wpAny_bind (wpAny_field he rfl (x := .ref it) rfl ?_)
  refine wpAny_bind (wpAny_nextOf_tuple_end hh hit hl hx fun h' x he' hx' => ?_)
  obtain ⟨o, ho, hc⟩ := hx'
  refine wpAny_bind (wpAny_isInstance (T := "StopIteration") (b := true) ⟨o, ho, hc⟩ isSubtype_stop ?_)
  exact wpAny_pure (hQ _ he')
end PySem
namespace L2
open PySem PySem.Spec PyProof.Rows
/-- the tuple at a, each item in a new pair -/
def IteT (K : PySem.W.Frag) (a : Addr) : It :=
  ⟨fun i H => ∃ (xs : List V) (x : V), SqT K H a xs ∧ xs[i]? = some x, fun i H v H' => ∃ T x, v = .ref T ∧ H T = none ∧ H' = upd H T (.tup [.int (i : Nat), x]) ∧ ∀ xs, SqT K H a xs → xs[i]? = some x, fun i H => ∃ xs : List V, SqT K H a xs ∧ xs.length ≤ i⟩
theorem turn_enumT {P : Program} {w : World} {K : PySem.W.Frag} {elts : List Expr} {kk : Nat} {tpos : Pos} (a e it : Addr) (hai : a ≠ it) (hea : e ≠ a) :
    Turn P w K (.Tuple elts kk tpos) (IteT K a) [e, it] e (fun i h => (∃ old, IsEnum h e it ((i : Nat) : Int) old) ∧ h.IsTupleIter it a i ∧ e ≠ it) where
  mem := by simp
  obj := fun i h st b hb => by
    obtain ⟨⟨old, he⟩, ⟨o, ho, hc, hd⟩, _⟩ := st
    have e' : b = e ∨ b = it := by simpa using hb
    rcases e' with z | z
    · rw [z]; exact ⟨_, he, fun v q => nomatch q⟩
    · rw [z]; exact ⟨o, ho, fun v q => by rw [hd] at q; cases q⟩
  keep := fun i h h' st k => let ⟨⟨old, he⟩, hi, hne⟩ := st; ⟨⟨old, k e (by simp) _ he⟩, hi.at fun o q => k it (by simp) o q, hne⟩
  item := by
    intro X hP hw hK hc i pins s σ H E I hf st hg
    subst hP hw hK
    obtain ⟨⟨old, he⟩, hit, hne⟩ := st
    obtain ⟨xs, x, hq, hx⟩ := hg
    obtain ⟨its, rv, p, hz⟩ := I.tuple hq
    obtain ⟨u, hu, ru⟩ := rv.get hx
    have hel : e < s.heap.objs.size := Heap.lt_size he
    have hil : it < s.heap.objs.size := by obtain ⟨_, q, _⟩ := hit; exact Heap.lt_size q
    have hlt : i < its.toArray.size := by
      rw [List.size_toArray]
      exact (List.getElem?_eq_some_iff.mp hu).1
    refine wpAny_pyNext_enum_itemD (Draws.tuple (A := X.A.in1) (I.ok.hd hc) it a hai its.toArray) he ⟨hit, p⟩ hlt hne (by simp [hne, hea]) fun x' h' tk hx' ho st' hT hsz hk => ?_
    have ex : x' = u := by
      rw [List.getElem?_toArray, hu] at hx'
      exact (Option.some.inj hx').symm
    subst ex
    have hit' := st'.1
    refine ⟨_, rfl, wpAny_letOwnedTupleGo_enum (s := { s with heap := h', toks := tk + 1 }) ho fun h'' he' sb => ?_⟩
    have hT2 : h''.get? s.heap.objs.size = some { cls := .type "tuple", data := .seq #[.int i tk, x'] } := (sb.2 _ (Nat.ne_of_gt hel)).trans hT
    have new : ObjOk X.prog X.w (upd H s.heap.objs.size (.tup [.int (i : Nat), x])) h'' s.heap.objs.size (.tup [.int (i : Nat), x]) :=
      ⟨by show 2 ≤ sizeLine; decide, [.int i tk, x'], .cons ⟨_, rfl⟩ (.cons ru .nil), ⟨_, hT2, rfl, _, rfl⟩⟩
    have I1 : Inv X pins σ (upd H s.heap.objs.size (.tup [.int (i : Nat), x])) { s with heap := h'', toks := tk + 1 } :=
      I.turnedNew (ch := [e, it]) (fun b ob hb q => (sb.2 b (fun z => hb (by simp [z]))).trans (hk b ob (fun z => hb (by simp [z])) (fun z => hb (by simp [z])) q)) hf (Nat.le_refl _) new
    refine ⟨.ref s.heap.objs.size, _, I1, rfl, ⟨_, x, rfl, I.hok.fresh (Nat.le_refl _), rfl, fun ys hy => by rw [I.tuple_inj hy hq]; exact hx⟩, ⟨⟨x', ?_⟩, hit'.at fun o q => (sb.2 it (Ne.symm hne)).trans q, hne⟩, fun b hb => ?_⟩
    · have e1 : ((i + 1 : Nat) : Int) = (i : Int) + 1 := by omega
      rw [e1]; exact he'
    · have hb' : b < s.heap.objs.size := by
        have e' : b = e ∨ b = it := by simpa using hb
        rcases e' with z | z
        · rw [z]; exact hel
        · rw [z]; exact hil
      rw [upd_ne (Nat.ne_of_lt hb')]
      exact (hf b hb).1
  done := by
    intro X hP hw hK hc i pins s σ H E I hf st hg
    subst hP hw hK
    obtain ⟨⟨old, he⟩, hit, hne⟩ := st
    obtain ⟨xs, hq, hx⟩ := hg
    obtain ⟨its, rv, p, hz⟩ := I.tuple hq
    obtain ⟨f0, f1, f2, f3, f4, f5⟩ := hf it (by simp)
    have hl := rv.length
    have hnone : its.toArray[i]? = none := by simp; omega
    exact fw_enum_endT (I.ok.hd hc) he hit p hnone fun h' eb => ⟨rfl, I.turned (t' := s.toks) (fun b o hb q => eb b o hb q) f0 f1 f3 f4 f5⟩
  self := fun A i s Q E st h => let ⟨⟨_, he⟩, _⟩ := st; wpAny_pyIter_enum he h
def iEnumA (K : PySem.W.Frag) (ta : TA) : TI := fun σ H R => ta σ H fun vs H1 => ∃ a xs, vs = [.ref a] ∧ ((SqL K H1 a xs ∧ R (Ite K a) H1) ∨ (SqT K H1 a xs ∧ R (IteT K a) H1))
theorem pi_enumA {X : Cx} {e : Expr} {ta : TA} {p pos tpos : Pos} {elts : List Expr} {kk : Nat} (hg : Gl X "enumerate") (hm : X.mg "enumerate" = none) (ha : PA X [e] ta) (hs : starEach [e] X.env = [(false, eval e X.env)]) :
    PI X (.Tuple elts kk tpos) (.Call (.Name "enumerate" p) [e] [] pos) (iEnumA X.K ta) := by
  refine ⟨fun pins s σ H R I h => ?_⟩
  refine Call_ (ld_blt I hg hm boot_enumerate (PyProof.Rows.callWith_type1 (thn (ha.run pos pins s σ H _ I h) fun us s1 ⟨vs, H1, I1, r1, q1⟩ => ?_) hs rfl))
  obtain ⟨a, xs, ex, q⟩ := q1
  subst ex
  cases r1 with
  | cons r rr =>
    cases rr
    cases r
    have fresh : ∀ b, b ∈ [s1.heap.objs.size + 1, s1.heap.objs.size] → FpOk X pins H1 b := fun b hb => by
      have e' : b = s1.heap.objs.size + 1 ∨ b = s1.heap.objs.size := by simpa using hb
      have hle : s1.heap.objs.size ≤ b := by
        rcases e' with z | z
        · rw [z]; exact Nat.le_add_right _ _
        · rw [z]; exact Nat.le_refl _
      exact I1.fpOk hle (I1.hok.fresh hle)
    rcases q with ⟨hq, q⟩ | ⟨hq, q⟩
    · obtain ⟨its, rv, p', hz⟩ := I1.list hq
      refine call_enumerate_list p'.isList fun h' he hit hsz hk => wpAny_pyIter_enum he ?_
      have I2 : Inv X pins σ H1 { s1 with heap := h' } := I1.kept (t' := s1.toks) hk
      exact ⟨s1.heap.objs.size + 1, [s1.heap.objs.size + 1, s1.heap.objs.size], _, _, H1, rfl, I2, turn_enum a (s1.heap.objs.size + 1) s1.heap.objs.size, ⟨⟨.none, he⟩, hit, Nat.succ_ne_self _⟩, fresh, q⟩
    · obtain ⟨its, rv, p', hz⟩ := I1.tuple hq
      have hlt : a < s1.heap.objs.size := by obtain ⟨o, ho, _⟩ := p'; exact Heap.lt_size ho
      refine fw_call_enumB (begins_tuple a its.toArray) p' fun h' he hit hsz hk => wpAny_pyIter_enum he ?_
      have I2 : Inv X pins σ H1 { s1 with heap := h' } := I1.kept (t' := s1.toks) hk
      exact ⟨s1.heap.objs.size + 1, [s1.heap.objs.size + 1, s1.heap.objs.size], _, _, H1, rfl, I2, turn_enumT a (s1.heap.objs.size + 1) s1.heap.objs.size (Nat.ne_of_lt hlt) (Nat.ne_of_gt (Nat.lt_succ_of_lt hlt)), ⟨⟨.none, he⟩, ⟨_, hit, rfl, rfl⟩, Nat.succ_ne_self _⟩, fresh, q⟩
end L2
namespace Fw
open PySem PySem.Spec PyProof.Rows L2
section
variable {X : Cx} {Wx : WX} {ex : Nat → Addr} {a : Expr} {ms : Env' → M (List D)} {p pos : Pos}
/-- the items with their places -/
def nums (xs : List PyData) : List D := (xs.zipIdx).map fun q => .p (.tuple [.int (q.2 : Nat), q.1])
def enum1 (ds : List D) : Option Src := match ds with
  | [.p (.list xs)] => some (.fix (nums xs))
  | [.p (.tuple xs)] => some (.fix (nums xs))
  | _ => none
theorem nums_len (xs : List PyData) : (nums xs).length = xs.length := by simp [nums]
theorem nums_get {xs : List PyData} {i : Nat} {d : D} (h : (nums xs)[i]? = some d) : ∃ x, xs[i]? = some x ∧ d = .p (.tuple [.int (i : Nat), x]) := by
  unfold nums at h
  rw [List.getElem?_map, List.getElem?_zipIdx] at h
  cases q : xs[i]? with
  | none => rw [q] at h; cases h
  | some x =>
    rw [q] at h
    refine ⟨x, rfl, ?_⟩
    have h' := Option.some.inj h
    rw [← h']
    simp
theorem serves_enumL {S : Hp} {κ : Kx} {w : Wd} {a : Addr} {vs : List V} {xs : List PyData} (s : SqL κ.K w.W a vs) (r : DqAll κ.K w.W vs xs) : Serves κ w S (.fix (nums xs)) (Ite κ.K a) where
  go := fun i w1 st H ds le _ hH hc hi => by
    cases hc
    rw [nums_len] at hi
    have h1 : i < vs.length := by rw [Fw.DqAll.length r]; omega
    exact ⟨vs, vs[i], sqL_mono (fun _ _ e => hH.wd (le.W _ _ e)) s, by simp [h1]⟩
  stop := fun i w1 st H ds le _ hH hc hi => by
    cases hc
    rw [nums_len] at hi
    exact ⟨vs, sqL_mono (fun _ _ e => hH.wd (le.W _ _ e)) s, by rw [Fw.DqAll.length r]; omega⟩
  yld := fun i w1 st H H' ds d x le _ hH hc hd hy => by
    cases hc
    obtain ⟨T, v, rfl, nT, rfl, f1⟩ := hy
    obtain ⟨y, h1, rfl⟩ := nums_get hd
    obtain ⟨v', g1, g2⟩ := DqAll.get r h1
    have e1 := f1 vs (sqL_mono (fun _ _ e => hH.wd (le.W _ _ e)) s)
    rw [g1] at e1; cases e1
    exact pair_new hH nT (.int _) (Dq.mono le.W _ _ g2)
theorem serves_enumT {S : Hp} {κ : Kx} {w : Wd} {a : Addr} {vs : List V} {xs : List PyData} (s : SqT κ.K w.W a vs) (r : DqAll κ.K w.W vs xs) : Serves κ w S (.fix (nums xs)) (IteT κ.K a) where
  go := fun i w1 st H ds le _ hH hc hi => by
    cases hc
    rw [nums_len] at hi
    have h1 : i < vs.length := by rw [Fw.DqAll.length r]; omega
    exact ⟨vs, vs[i], sqT_mono (fun _ _ e => hH.wd (le.W _ _ e)) s, by simp [h1]⟩
  stop := fun i w1 st H ds le _ hH hc hi => by
    cases hc
    rw [nums_len] at hi
    exact ⟨vs, sqT_mono (fun _ _ e => hH.wd (le.W _ _ e)) s, by rw [Fw.DqAll.length r]; omega⟩
  yld := fun i w1 st H H' ds d x le _ hH hc hd hy => by
    cases hc
    obtain ⟨T, v, rfl, nT, rfl, f1⟩ := hy
    obtain ⟨y, h1, rfl⟩ := nums_get hd
    obtain ⟨v', g1, g2⟩ := DqAll.get r h1
    have e1 := f1 vs (sqT_mono (fun _ _ e => hH.wd (le.W _ _ e)) s)
    rw [g1] at e1; cases e1
    exact pair_new hH nT (.int _) (Dq.mono le.W _ _ g2)
theorem r_enum {elts : List Expr} {kk : Nat} {tpos : Pos} (hg : Gl X "enumerate") (hm : X.mg "enumerate" = none) (ha : PA X [a] (rdA (kxOf X ex) ms Wx)) (hs : starEach [a] X.env = [(false, eval a X.env)]) :
    PI X (.Tuple elts kk tpos) (.Call (.Name "enumerate" p) [a] [] pos) (rdI (kxOf X ex) (iArgs ms enum1) Wx) := (pi_enumA hg hm ha hs).wk fun σ H Q h => by
  obtain ⟨w, env, st, hE, hH, hp⟩ := h
  refine ⟨w, env, st, hE, hH, (PostG.bnd hp).imp fun ds st1 w1 H1 le hH1 hp1 vs rl => ?_⟩
  unfold opt enum1 at hp1
  split at hp1
  · rename_i sr q
    split at q
    · rename_i xs
      cases q
      cases rl with
      | cons r1 r3 =>
        cases r3
        have r1' : Dq X.K w1.W _ (.list xs) := r1
        obtain ⟨b1, v1, rfl, s1, a1⟩ := Dq.lst_inv r1'
        exact ⟨b1, v1, rfl, .inl ⟨sqL_mono (fun _ _ e => hH1.wd e) s1, hp1 w1 _ (Wd.Le.refl _) hH1 _ (serves_enumL (κ := kxOf X ex) s1 a1)⟩⟩
    · rename_i xs
      cases q
      cases rl with
      | cons r1 r3 =>
        cases r3
        have r1' : Dq X.K w1.W _ (.tuple xs) := r1
        obtain ⟨b1, v1, rfl, s1, a1⟩ := Dq.tup_inv r1'
        exact ⟨b1, v1, rfl, .inr ⟨sqT_mono (fun _ _ e => hH1.wd e) s1, hp1 w1 _ (Wd.Le.refl _) hH1 _ (serves_enumT (κ := kxOf X ex) s1 a1)⟩⟩
    · cases q
  · exact hp1.elim
end
end Fw
set_option Elab.async false
set_option linter.all false
set_option maxRecDepth 100000
set_option maxHeartbeats 4000000
namespace Fw
open PySem PySem.Spec PyProof.Rows L2

/-! ## sorted(d), sorted(d, reverse=b), d a dict with rows of ints as keys -/
theorem toks_lt : ∀ a b : List Int, PyProof.Rows.lexLt PyProof.Rows.itemOrd (PySem.W.keyToksAll (a.map .int)) (PySem.W.keyToksAll (b.map .int)) = ltI a b
  | [], [] => by decide +kernel
  | [], y :: b => by
    rw [List.map_cons, PySem.W.toks_all_cons, List.map_nil]
    show PyProof.Rows.lexLt PyProof.Rows.itemOrd (PySem.W.keyToksAll []) _ = true
    rw [PySem.W.keyToksAll]
    rw [PySem.W.lex_atom (by simp)]
    decide +kernel
  | x :: a, [] => by
    rw [List.map_cons, PySem.W.toks_all_cons, List.map_nil]
    show PyProof.Rows.lexLt PyProof.Rows.itemOrd _ (PySem.W.keyToksAll []) = false
    rw [PySem.W.keyToksAll]
    rw [PySem.W.lex_atom (by simp)]
    decide +kernel
  | x :: a, y :: b => by
    rw [List.map_cons, List.map_cons]
    by_cases h : x = y
    · subst h
      rw [PySem.W.dataLt_all_yes (by rfl) (by show (x == x) = true; simp), toks_lt a b]
      simp [ltI]
    · rw [PySem.W.dataLt_all_no (by rfl) (by show (x == y) = false; simpa using h), PySem.W.dataLt_int]
      simp [ltI, h]
theorem dl_T (a b : List Int) : PySem.W.dataLt (tupI a) (tupI b) = ltI a b := (PySem.W.dataLt_tuple _ _).trans (toks_lt a b)
theorem ltI_asymm {a b : List Int} (h : ltI a b = true) : ltI b a = false := by
  cases q : ltI b a with
  | false => rfl
  | true =>
    have := ltI_trans h q
    rw [ltI_irr] at this
    cases this
def kwR : Option Bool → List (Str × Value)
  | none => []
  | some b => [(Str.ofString "reverse", .bool b)]
def rvR (o : Option Bool) : Bool := o.getD false
def srtK (b : Bool) (ks : List (List Int)) : List (List Int) := if b = true then (canon ks).reverse else canon ks
def okKD (ks : List (List Int)) : Bool := decide (ks.length ≤ 1000000) && ks.all fun k => !k.isEmpty
theorem okKD_ok {ks : List (List Int)} (h : okKD ks = true) : ks.length ≤ 1000000 ∧ ∀ k ∈ ks, k ≠ [] := by
  unfold okKD at h
  rw [Bool.and_eq_true, List.all_eq_true] at h
  refine ⟨of_decide_eq_true h.1, fun k hk e => ?_⟩
  have := h.2 k hk
  rw [e] at this
  cases this
theorem alike_ints2 : ∀ a b : List Int, PySem.W.alikeAll (a.map .int) (b.map .int) = true
  | [], _ => by rw [List.map_nil, PySem.W.alikeAll]
  | _ :: _, [] => by rw [List.map_cons, List.map_nil, PySem.W.alikeAll]
  | x :: a, y :: b => by
    rw [List.map_cons, List.map_cons, PySem.W.alikeAll, alike_ints2 a b]
    rfl
theorem alike_T (a b : List Int) : PySem.W.alike (tupI a) (tupI b) = true := by
  unfold tupI
  rw [PySem.W.alike]
  exact alike_ints2 a b
theorem depth_ints : ∀ k : List Int, PyData.depthAll (k.map PyData.int) ≤ 1
  | [] => by show PyData.depthAll [] ≤ 1; decide
  | i :: k => by
    have := depth_ints k
    show max (PyData.int i).depth (PyData.depthAll (k.map PyData.int)) ≤ 1
    exact Nat.max_le.mpr ⟨by show 0 ≤ 1; decide, this⟩
theorem depth_T (k : List Int) : (tupI k).depth ≤ 2 := by
  have := depth_ints k
  show PyData.depthAll (k.map PyData.int) + 1 ≤ 2
  omega
theorem sort_rows {b : Bool} {L : List (Addr × List Int)} (hn : (L.map (·.2)).Nodup) : (L.mergeSort (PySem.W.dataLe b fun p => tupI p.2)).map (·.2) = srtK b (L.map (·.2)) := by
  have T := PySem.W.sortLe_total (PyProof.Rows.listOrd PyProof.Rows.itemOrd) b fun p : Addr × List Int => PySem.W.keyToks (tupI p.2)
  have pw := List.pairwise_mergeSort (le := PySem.W.dataLe b fun p : Addr × List Int => tupI p.2) T.trans (fun a c => by rw [Bool.or_eq_true]; exact T.total a c) L
  have pm : (L.mergeSort (PySem.W.dataLe b fun p => tupI p.2)).Perm L := List.mergeSort_perm _ _
  generalize L.mergeSort (PySem.W.dataLe b fun p => tupI p.2) = L' at pw pm
  have nd : (L'.map (·.2)).Nodup := (pm.map _).nodup_iff.mpr hn
  have mem : ∀ z, z ∈ L'.map (·.2) ↔ z ∈ L.map (·.2) := fun z => (pm.map _).mem_iff
  unfold srtK
  cases b with
  | false =>
    rw [if_neg Bool.false_ne_true]
    refine asc_uniq ?_ (asc_canon _) fun z => (mem z).trans mem_canon.symm
    have p2 : (L'.map (·.2)).Pairwise fun x y => ltI y x = false := List.pairwise_map.mpr (pw.imp fun {x y} h => by
      have h' : (!PySem.W.dataLt (tupI y.2) (tupI x.2)) = true := h
      rw [dl_T] at h'
      simpa using h')
    exact (p2.and nd).imp fun {x y} ⟨h1, h2⟩ => ltI_tri h1 (Ne.symm h2)
  | true =>
    rw [if_pos rfl]
    have e : (L'.map (·.2)).reverse = canon (L.map (·.2)) := by
      refine asc_uniq ?_ (asc_canon _) fun z => by rw [List.mem_reverse, mem z]; exact mem_canon.symm
      have p2 : (L'.map (·.2)).Pairwise fun x y => ltI x y = false := List.pairwise_map.mpr (pw.imp fun {x y} h => by
        have h' : (!PySem.W.dataLt (tupI x.2) (tupI y.2)) = true := h
        rw [dl_T] at h'
        simpa using h')
      exact List.pairwise_reverse.mpr ((p2.and nd).imp fun {x y} ⟨h1, h2⟩ => ltI_tri h1 h2)
    rw [← e, List.reverse_reverse]
section
variable {X : Cx} {κ : Kx} {Wx : WX} {w : Wd} {st : Sto} {σ : L2.St} {H : Hp} {ex : Nat → Addr}
/-- a call of a built-in by values, keywords told -/
def CallK (X : Cx) (f : Value) (kw : List (Str × Value)) (r : List V → Hp → VK → Prop) : Prop :=
  ∀ (pins : List (Addr × Obj)) (s : Shared) (σ : L2.St) (H : Hp) (vs : List V) (us : List Value) (Q : VK), Inv X pins σ H s → Vals vs us → r vs H Q → wpAny (model X.prog X.w) X.A (call f us kw) (EP X pins σ Q) X.xe s
theorem each_rows {P : Program} : ∀ {L : List (Addr × List Int)}, PySem.W.EachIs (fun (v : Value) (p : Addr × List Int) => v = Value.ref p.1 ∧ p ∈ L) (L.map fun p => Value.ref p.1) L := by
  intro L
  have : ∀ M : List (Addr × List Int), (∀ p ∈ M, p ∈ L) → PySem.W.EachIs (fun (v : Value) (p : Addr × List Int) => v = Value.ref p.1 ∧ p ∈ L) (M.map fun p => Value.ref p.1) M := fun M => by
    induction M with
    | nil => intro _; exact .nil
    | cons p M ih => intro h; exact .cons ⟨rfl, h p List.mem_cons_self⟩ (ih fun q hq => h q (List.mem_cons_of_mem _ hq))
  exact this L fun p h => h
theorem each_refs {L0 : List (Addr × List Int)} : ∀ {us : List Value} {L : List (Addr × List Int)}, PySem.W.EachIs (fun (v : Value) (p : Addr × List Int) => v = Value.ref p.1 ∧ p ∈ L0) us L → us = L.map fun p => Value.ref p.1
  | _, _, .nil => rfl
  | _, _, .cons h t => by rw [h.1, each_refs t]; rfl
def rSortDK (o : Option Bool) : List V → Hp → VK → Prop := fun xs H Q => ∃ (a : Addr) (kvs : List (List Key × V)) (ks : List (List Int)), xs = [V.ref a] ∧ H a = some (.dT kvs) ∧ kvs.map (·.1) = ks.map (fun k => k.map Sum.inl) ∧ okKD ks = true ∧
  ∀ (L : List (Addr × List Int)) (p : Addr), (∀ q ∈ L, H q.1 = some (.tup (q.2.map V.int))) → L.map (·.2) = srtK (rvR o) ks → H p = none → Q (.ref p) (upd H p (.lst (L.map fun q => V.ref q.1)))
theorem args_sortK (o : Option Bool) (a : Value) : argsOk "sorted" ⟨[a], kwR o⟩ := by
  cases o with
  | none => exact PyProof.Rows.args_sorted1 a
  | some b => exact PyProof.Rows.args_sorted_rev _ _
theorem sort_callK {prog : Program} {w : World} {A : Around} {E : Value → Shared → Prop} {s : Shared} (o : Option Bool) {vs : List Value} {L : List (Addr × List Int)} {a : Addr} {n : Nat} {Q : Value → Shared → Prop} {R : Value → Addr × List Int → Prop}
    (ho : s.heap.get? a = some (seqObj "list" vs.toArray n)) (e : PySem.W.EachIs R vs L) (er : PySem.W.EachIs (fun v b => ∃ as, Reads s.heap v (tupI b.2) as ∧ a ∉ as) vs L) (hk : ∀ p ∈ L, p.2 ≠ []) (hL : L.length ≤ sizeLine) (hu : A.units + 1 + 2 < cLine)
    (h : ∀ out, out.length = L.length → PySem.W.EachIs R out (L.mergeSort (PySem.W.dataLe (rvR o) fun p => tupI p.2)) → Q .none { s with heap := sortedHeap s.heap a vs (List.toArray out) }) : wpAny (model prog w) A (call (.builtin "list.sort") [.ref a] (kwR o)) Q E s := by
  have hal : PySem.W.AllAlike (L.map fun p => tupI p.2) := fun d hd d' hd' => by
    obtain ⟨p, _, rfl⟩ := List.mem_map.mp hd
    obtain ⟨q, _, rfl⟩ := List.mem_map.mp hd'
    exact alike_T _ _
  have hso : PySem.W.Sortable (L.map fun p => tupI p.2) := .inl fun d hd => by
    obtain ⟨p, hp, rfl⟩ := List.mem_map.mp hd
    cases q : p.2 with
    | nil => exact absurd q (hk p hp)
    | cons i r => exact ⟨.int i, r.map .int, rfl⟩
  have hub : ∀ b, b ∈ L → A.units + 1 + (tupI b.2).depth < cLine := fun b _ => by have := depth_T b.2; omega
  cases o with
  | none => exact PySem.W.list_sort_data ho e er hal hso hL hub h
  | some b => exact PySem.W.list_sort_rev_data ho e er hal hso hL hub h
theorem cr_sortDK (hc : X.calm = true) (hu : X.A.units + 64 < cLine) (o : Option Bool) : CallK X (.builtin "sorted") (kwR o) (rSortDK o) := by
  intro pins s σ H xs us Q I r h
  obtain ⟨d, kvs, ks, rfl, hd, hks, hok, q⟩ := h
  obtain ⟨u, rfl, rx⟩ := r.one
  cases rx
  obtain ⟨z, hs, xs, pr, ob, es, ep, ho, hx, hdt, he, hn⟩ := (show ObjOk X.prog X.w H s.heap d (.dT kvs) from I.hok d _ hd)
  have l1 : es.size = xs.length := size_of_entries he
  have l2 : kvs.length = xs.length := Paired.length pr
  obtain ⟨L, hL1, hL2, hL3⟩ := kt_list pr hks
  obtain ⟨hlen, hne⟩ := okKD_ok hok
  have lL : L.length = ks.length := by rw [← hL2, List.length_map]
  have lx : xs.length = ks.length := by
    have := congrArg List.length hL1
    rw [List.length_map, List.length_map] at this
    omega
  have hnd : (L.map (·.2)).Nodup := by
    have e2 : (kvs.map (·.1)).Nodup := by rw [← kt_keys pr]; exact hn
    rw [hks] at e2
    rw [hL2]
    exact nodup_of_map e2
  refine PyProof.Rows.call_function_entry_kw PyProof.Rows.kind_sorted PyProof.Rows.plain_sorted PyProof.Rows.entry_sorted (args_sortK o _) ?_
  unfold Builtin.«sorted»
  refine wpAny_bind (m := checkCount "sorted" 1 1 _) (wpAny_pure ?_)
  refine wpAny_bind (PySem.W.kdu_collect (A := X.A.in1) (kdl_raw hs hx hdt) (I.ok.hd hc) ho (by rw [sizeLine_eq]; omega) fun h' tk acc kp it => ?_)
  have ea : acc.toList = L.map fun p => Value.ref p.1 := by
    have e1 : acc.toList = xs.map fun x => Value.ref x.2.1 := by
      apply List.ext_getElem?
      intro j
      rw [List.getElem?_map]
      have hl : acc.toList.length = xs.length := by rw [Array.length_toList, it.1]; exact l1
      cases hj : acc.toList[j]? with
      | none =>
        have h1 := List.getElem?_eq_none_iff.mp hj
        rw [List.getElem?_eq_none (by omega)]
        rfl
      | some v =>
        obtain ⟨en, hen, hv⟩ := it.2 j v (by rw [← Array.getElem?_toList]; exact hj)
        have qe := entry_at he j
        rw [hen] at qe
        cases hb : xs[j]? with
        | none =>
          rw [hb] at qe
          exact nomatch (show some en = none from qe)
        | some b =>
          rw [hb] at qe
          have e2 : en = entryOfKey (tupleKind (mixKind X.prog X.w)) b := Option.some.inj qe
          rw [hv, e2]
          rfl
    have e2 : (xs.map fun x => Value.ref x.2.1) = (xs.map fun x => x.2.1).map Value.ref := by rw [List.map_map]; rfl
    rw [e1, e2, hL1, List.map_map]
    rfl
  have I1 : Inv X pins σ H { s with heap := h', toks := tk } := I.kept kp
  have hal : acc.toList.length = L.length := by rw [ea, List.length_map]
  refine wpAny_bind (wpAny_newList ?_ (by rw [hal, sizeLine_eq]; omega))
  have hoL : (h'.push (seqObj "list" acc.toList.toArray 0)).get? h'.objs.size = some (seqObj "list" acc.toList.toArray 0) := Heap.get?_push_size _ rfl
  have rd : ∀ p ∈ L, ∃ as, Reads (h'.push (seqObj "list" acc.toList.toArray 0)) (.ref p.1) (tupI p.2) as ∧ h'.objs.size ∉ as := fun p hp => by
    obtain ⟨as, hr⟩ := Dp.reads I1 (tupI p.2) (.ref p.1) (.ref p.1) (.tup (SqT.of (hL3 p hp)) (ints_dp _)) rfl
    refine ⟨as, PySem.W.reads_keeps (fun b o e => Heap.get?_push_of_some _ e) hr, fun m => ?_⟩
    obtain ⟨o', ho'⟩ := PyProof.On.reads_mem_get hr _ m
    exact absurd (Heap.lt_size ho') (Nat.lt_irrefl _)
  have each : ∀ M : List (Addr × List Int), (∀ p ∈ M, p ∈ L) → PySem.W.EachIs (fun v b => ∃ as, Reads (h'.push (seqObj "list" acc.toList.toArray 0)) v (tupI b.2) as ∧ h'.objs.size ∉ as) (M.map fun p => Value.ref p.1) M := fun M => by
    induction M with
    | nil => intro _; exact .nil
    | cons p M ih => intro h; exact .cons (rd p (h p List.mem_cons_self)) (ih fun q hq => h q (List.mem_cons_of_mem _ hq))
  show wpAny _ _ _ _ _ { s with heap := h'.push (seqObj "list" acc.toList.toArray 0), toks := tk }
  refine wpAny_bind (wpAny_holding (sort_callK (s := { s with heap := h'.push (seqObj "list" acc.toList.toArray 0), toks := tk }) o (L := L) hoL (by rw [ea]; exact each_rows (P := X.prog)) (by have q := each L fun p h => h; rw [← ea] at q; exact q) (fun p hp => hne p.2 (by rw [← hL2]; exact List.mem_map.mpr ⟨p, hp, rfl⟩)) (by rw [sizeLine_eq]; omega) (by show X.A.units + 1 + 1 + 2 < cLine; omega) fun out o1 o2 => ?_))
  have eo := each_refs o2
  have pL' : (L.mergeSort (PySem.W.dataLe (rvR o) fun p => tupI p.2)).Perm L := List.mergeSort_perm _ _
  have em : (L.mergeSort (PySem.W.dataLe (rvR o) fun p => tupI p.2)).map (·.2) = srtK (rvR o) ks := by rw [sort_rows hnd, hL2]
  generalize L.mergeSort (PySem.W.dataLe (rvR o) fun p => tupI p.2) = L' at eo pL' em
  subst eo
  obtain ⟨c, hc2⟩ := PyProof.Rows.sortedHeap_at (vs := acc.toList) (out := (L'.map fun p => Value.ref p.1).toArray) hoL
  have hlen2 : (L'.map fun q => V.ref q.1).length ≤ sizeLine := by rw [List.length_map, pL'.length_eq, sizeLine_eq]; omega
  refine wpAny_pure ⟨_, rfl, .ref h'.objs.size, upd H h'.objs.size (.lst (L'.map fun q => V.ref q.1)), I1.laid (t' := tk) (fun b u e => ?_) (Nat.le_refl _)
    (show ObjOk X.prog X.w _ _ _ (.lst (L'.map fun q => V.ref q.1)) from ⟨hlen2, L'.map (fun p => Value.ref p.1), c, vals_of_refs L', hc2⟩), rfl, q L' _ (fun p hp => hL3 p (pL'.mem_iff.mp hp)) em (I1.hok.fresh (Nat.le_refl _))⟩
  have hb : b < h'.objs.size := Heap.lt_size e
  rw [PyProof.Rows.sortedHeap_old (Nat.ne_of_lt hb) (by rw [size_push']; exact Nat.lt_succ_of_lt hb)]
  exact Heap.get?_push_of_some _ e
end
end Fw
namespace Fw
open PySem PySem.Spec PyProof.Rows L2
section
variable {X : Cx} {κ : Kx} {Wx : WX} {w : Wd} {st : Sto} {σ : L2.St} {H : Hp} {ex : Nat → Addr} {ma : Env' → M D}
/-- sorted(x, reverse=b) -/
def sortK (o : Option Bool) : Fn1 := fun d st => match d with
  | .loc n => (match st[n]? with
    | some (.dT kvs) => (match dKeys kvs with
      | some ks => if okKD ks = true then some (.p (.list ((srtK (rvR o) ks).map tupI)), st) else none
      | none => none)
    | some (.lst _) => lift1 1 (sortP (rvR o)) (.loc n) st
    | _ => none)
  | x => lift1 1 (sortP (rvR o)) x st
theorem c_sortedP (hu : X.A.units + 64 < cLine) (o : Option Bool) : CallK X (.builtin "sorted") (kwR o) (rdL (kxOf X ex) (gL1 (lift1 1 (sortP (rvR o))))) := by
  intro pins s σ H vs us Q I rv h
  obtain ⟨w, x, v, st, rfl, r1, hH, d, st', e, fin⟩ := gL1_inv h
  obtain ⟨y, r, e1, e3, rfl, rfl⟩ := lift1_ok e
  have q1 := view1_ok hH r1 e1
  unfold sortP at e3
  split at e3
  · rename_i xs
    split at e3
    · rename_i hb
      cases e3
      obtain ⟨b, vs, rfl, s1, a1⟩ := q1
      rw [Vals.ref1 rv]
      obtain ⟨h1, h2⟩ := sortB_ok hb.1
      refine sort_core I hu hH hb s1 a1 fin fun hl ei er h => ?_
      have hub : ∀ b ∈ xs, X.A.units + 2 + (nm b).depth < cLine := fun b hbm => by have := depth_mem (xs := nmA xs) (x := nm b) (by rw [nmA_map]; exact List.mem_map_of_mem hbm); have := hb.2.1; omega
      cases o with
      | none => exact PySem.W.sorted_data hl ei er h1 h2 (lim_line hb.2.2) hub h
      | some b => exact PySem.W.sorted_rev_data hl ei er h1 h2 (lim_line hb.2.2) hub h
    · cases e3
  · cases e3
theorem c_sortedK (hc : X.calm = true) (hu : X.A.units + 64 < cLine) (o : Option Bool) : CallK X (.builtin "sorted") (kwR o) (rdL (kxOf X ex) (gL1 (sortK o))) := by
  intro pins s σ H vs us Q I rv h
  obtain ⟨w, x, v, st, rfl, r1, hH, d, st', e, fin⟩ := gL1_inv h
  cases x with
  | p y => exact c_sortedP hu o pins s σ H _ us Q I rv ⟨w, [.p y], st, .cons r1 .nil, hH, d, st', e, fin⟩
  | loc n =>
    obtain ⟨a, rfl, ha⟩ := r1
    have e' : (match st[n]? with
      | some (.dT kvs) => (match dKeys kvs with
        | some ks => if okKD ks = true then some (D.p (.list ((srtK (rvR o) ks).map tupI)), st) else none
        | none => none)
      | some (.lst _) => lift1 1 (sortP (rvR o)) (.loc n) st
      | _ => none) = some (d, st') := e
    cases q : st[n]? with
    | none => rw [q] at e'; cases e'
    | some b =>
      rw [q] at e'
      cases b with
      | set ks => cases e'
      | dT kvs =>
        simp only at e'
        split at e'
        · rename_i ks qk
          split at e'
          · rename_i hk
            cases e'
            obtain ⟨ob, hob, vs', rfl, hke, _⟩ := hH.obs n a _ ha q
            refine cr_sortDK hc hu o pins s σ H _ us Q I rv ⟨a, vs', ks, rfl, hob, by rw [hke]; exact dKeys_eq qk, hk, fun L p hL eL np => ?_⟩
            obtain ⟨w2, le2, hH2, hw2⟩ := Hold.adopt hH (fun b => ∃ z ∈ L, z.1 = b) fun b ⟨z, hz, eb⟩ => ⟨z.2.map V.int, by rw [← eb]; exact hL z hz⟩
            exact rows_new (κ := kxOf X ex) hH2 np (fun z hz => SqT.of (hw2 z.1 _ ⟨z, hz, rfl⟩ (hL z hz))) (by rw [eL]; exact fun w' H' v le => fin w' H' v (le2.trans le))
          · cases e'
        · cases e'
      | lst _ => exact c_sortedP hu o pins s σ H _ us Q I rv ⟨w, [.loc n], st, .cons ⟨a, rfl, ha⟩ .nil, hH, d, st', e', fin⟩
      | dK _ => cases e'
/-- f(e, x=b) -/
theorem r_callKw {id : String} {x nm : Str} {b : Bool} {g : FnL} {e : Expr} {ms : Env' → M (List D)} {p p2 kp pos : Pos} {kk : Nat} (hc : CallK X (.builtin id) [(nm, .bool b)] (rdL κ g)) (hg : Gl X x) (hm : X.mg x = none) (hv : bootBuiltins x = some (.builtin id)) (ha : PA X [e] (rdA κ ms Wx)) (hn : x ≠ "__name__") (hdb : (x == ("__debug__" : Str)) = false)
    (he : starEach [e] X.env = (false, eval e X.env) :: starEach [] X.env) : PE X (.Call (.Name x p) [e] [⟨some nm, .Constant (.bool b) kk p2, kp⟩] pos) (rdE κ (mL ms g) Wx) := by
  refine PE.wk (t := tCB (rdL κ g) (rdA κ ms Wx)) ⟨fun pins s σ H Q I h => ?_⟩ fun σ H Q h => rd_mL h
  refine wpAny_Call_Name_kw (ld_blt I hg hm hv ?_ hn hdb)
  refine PyProof.Rows.callWith_kw (thn (ha.run pos pins s σ H _ I h) fun us s1 ⟨vs, H1, I1, r1, q1⟩ => ?_) (by rw [he]; rfl) (by rw [he]; rfl) rfl rfl
  refine PyProof.Rows.kws_cons (thn ((pe_bl (X := X) (b := b) (j := kk) (pos := p2)).run pins s1 σ H1 (fun v H2 => v = .bl b ∧ H2 = H1) I1 ⟨rfl, rfl⟩) fun v s2 ⟨y, H2, I2, r2, q2⟩ => ?_)
  obtain ⟨rfl, rfl⟩ := q2
  cases r2
  exact PyProof.Rows.kws_nil (hc pins s2 σ _ vs us Q I2 r1 q1)
end
end Fw
set_option Elab.async false
set_option linter.all false
set_option maxRecDepth 100000
set_option maxHeartbeats 4000000
namespace Fw
open PySem PySem.Spec PyProof.Rows L2
section
variable {X : Cx} {κ : Kx} {Wx : WX} {w : Wd} {st : Sto} {σ : L2.St} {H : Hp} {ex : Nat → Addr} {ma mb mo mi mj mq : Env' → M D} {ms : Env' → M (List D)}
/-! ## sorted(x) -/
def sortG : Fn1 := fun d st => match d with
  | .loc n => (match st[n]? with
    | some (.set _) => sortF (.loc n) st
    | _ => sortK none (.loc n) st)
  | x => sortK none x st
theorem c_sortG (hc : X.calm = true) (hu : X.A.units + 64 < cLine) : CallR X (.builtin "sorted") (rdL (kxOf X ex) (gL1 sortG)) := by
  intro pins s σ H vs us Q I rv h
  obtain ⟨w, x, v, st, rfl, r1, hH, d, st', e, fin⟩ := gL1_inv h
  have k : sortK none x st = some (d, st') → wpAny (model X.prog X.w) X.A (call (.builtin "sorted") us) (EP X pins σ Q) X.xe s := fun e => c_sortedK hc hu none pins s σ H _ us Q I rv ⟨w, [x], st, .cons r1 .nil, hH, d, st', e, fin⟩
  cases x with
  | p y => exact k e
  | loc n =>
    unfold sortG at e
    simp only at e
    split at e
    · exact c_sortedG hc hu pins s σ H _ us Q I rv ⟨w, [.loc n], st, .cons r1 .nil, hH, d, st', e, fin⟩
    · exact k e
/-! ## range(a, b, c) -/
def rngC (lo c : Int) (n : Nat) : List D := (List.range n).map fun (i : Nat) => D.p (.int (lo + (i : Nat) * c))
def rng3 (ds : List D) : Option Src := match ds with
  | [.p (.int i), .p (.int j), .p (.int c)] => if smallI i = true ∧ smallI j = true ∧ c = -1 then some (.fix (rngC i (-1) (i - j).toNat)) else none
  | _ => none
theorem serves_rangeC {S : Hp} {lo c : Int} {n : Nat} : Serves κ w S (.fix (rngC lo c n)) (Itc lo c n) where
  go := fun i w1 st H ds le _ hH hc hi => by
    cases hc
    show i < n
    simpa [rngC] using hi
  stop := fun i w1 st H ds le _ hH hc hi => by
    cases hc
    show n ≤ i
    simpa [rngC] using hi
  yld := fun i w1 st H H' ds d x le _ hH hc hd hy => by
    cases hc
    obtain ⟨rfl, rfl⟩ := hy
    unfold rngC at hd
    rw [List.getElem?_map] at hd
    cases q : (List.range n)[i]? with
    | none => rw [q] at hd; cases hd
    | some j =>
      rw [q] at hd
      cases hd
      have hj := List.getElem?_eq_some_iff.mp q
      have : j = i := by simpa using hj.2.symm
      subst this
      exact ⟨w1, Wd.Le.refl _, hH, .int _⟩
theorem r_rng3 {tg a b c : Expr} {p pos : Pos} (hg : Gl X "range") (hm : X.mg "range" = none) (ha : PA X [a, b, c] (rdA (kxOf X ex) ms Wx)) (hs : starEach [a, b, c] X.env = (false, eval a X.env) :: starEach [b, c] X.env) (hpl : (backTo pos (starEach [b, c] X.env)).any (·.1) = false) : PI X tg (.Call (.Name "range" p) [a, b, c] [] pos) (rdI (kxOf X ex) (iArgs ms rng3) Wx) := (pi_range3 hg hm ha hs hpl).wk fun σ H Q h => by
  obtain ⟨w, env, st, hE, hH, hp⟩ := h
  refine ⟨w, env, st, hE, hH, (PostG.bnd hp).imp fun ds st1 w1 H1 le hH1 hp1 vs rl => ?_⟩
  unfold opt rng3 at hp1
  split at hp1
  · rename_i sr q
    split at q
    · rename_i i j c
      split at q
      · rename_i hj
        obtain ⟨hi, hj, rfl⟩ := hj
        cases q
        cases rl with
        | cons r1 r2 =>
          cases r2 with
          | cons r2 r3 =>
            cases r3 with
            | cons r3 r4 =>
              cases r4
              have r1' : Dq X.K w1.W _ (.int i) := r1
              have r2' : Dq X.K w1.W _ (.int j) := r2
              have r3' : Dq X.K w1.W _ (.int (-1)) := r3
              have z1 := Dq.int_inv r1'
              have z2 := Dq.int_inv r2'
              have z3 := Dq.int_inv r3'
              subst z1 z2 z3
              obtain ⟨h1, h2⟩ := smallI_ok hi
              obtain ⟨h3, h4⟩ := smallI_ok hj
              exact ⟨i, j, -1, _, rfl, RgC.neg h1 h2 h3 h4, hp1 w1 _ (Wd.Le.refl _) hH1 _ serves_rangeC⟩
      · cases q
    · cases q
  · exact hp1.elim
/-! ## name = [..], stored from within -/
variable {elt tg iter tg1 iter1 : Expr} {ifs ifs1 : List Expr} {scope : Scope} {own : List (Str × Nat)} {pos py spos : Pos} {mi' mi1 : Env' → M Src} {g g1 : G} {t t1 : Env' → M Bool} {m : Env' → M D} {i : Nat} {y : Str}
theorem gname_wk {v : V} {σ : L2.St} {H : Hp} {Q : L2.St → Hp → Prop} (h : rdG κ (.nm i) v σ H Q) : gName i v σ H Q := by
  obtain ⟨w, env, st, d, env', hE, hH, r, e, q⟩ := h
  unfold gSet at e
  split at e
  · rename_i hi
    cases e
    exact q _ (hE.set hi r) fun vs hv => wipe_set (hv i (by simp [gIx]))
  · cases e
theorem rdE_imp {m : Env' → M D} {Q Q' : VK} (h : rdE κ m Wx σ H Q) (q : ∀ v H, Q v H → Q' v H) : rdE κ m Wx σ H Q' := by
  obtain ⟨w, env, st, hE, hH, hp⟩ := h
  exact ⟨w, env, st, hE, hH, hp.imp fun d st' w' H' _ _ k v r => q v _ (k v r)⟩
theorem r_setComp {mu : Bool} (hc : X.calm = true) (hN : X.N.Nodup) (hy : X.N[i]? = some y) (hyl : X.env.scope.names.lookup y = some .local) (hsw : swapsWith (.ListComp elt [⟨tg, iter, ifs, 0⟩] scope pos) (some (.Name y py)) spos.line X.env = pure true)
    (hi : PI X tg iter (rdI (kxOf X ex) mi' Wx)) (ok : BlkOk X.N X.env.scope scope own) (hgx : ∀ i ∈ gIx g, i ∈ own.map (·.2))
    (hg : ∀ (s : Shared) (H : Hp) (C : Addr) (cl : List (Str × Addr)) (fp : List Addr), PG (X.blk s H scope (compEnvC scope cl C X.env) fp) tg (rdG (kxOf X ex) g)) (ht : ∀ (s : Shared) (H : Hp) (C : Addr) (cl : List (Str × Addr)) (fp : List Addr), PTs (X.blk s H scope (compEnvC scope cl C X.env) fp) ifs (rdT (kxOf X ex) t FW))
    (he : ∀ (s : Shared) (H : Hp) (C : Addr) (cl : List (Str × Addr)) (fp : List Addr), PE (X.blk s H scope (compEnvC scope cl C X.env) fp) elt (rdE (kxOf X ex) m FW)) (hs : ∀ x, foldedSetIterable iter X.env x = pure x) :
    PS X (.Assign [.Name y py] (.ListComp elt [⟨tg, iter, ifs, 0⟩] scope pos) spos) (rdS (kxOf X ex) (sAsg (.nm i) (mComp mu mi' g (own.map (·.2)) t m)) Wx) :=
  (ps_setLc hc hN hy hyl hsw hi ok hg ht he hs).wk fun E σ H h =>
    rd_compG (B := fun D σ3 H' Nx => rdT (kxOf X ex) t FW σ3 H' fun b H3 => if b = true then rdE (kxOf X ex) m FW σ3 H3 fun y H4 => ∃ acc, H4 D = some (.lst acc) ∧ acc.length < sizeLine ∧ Nx (upd H4 D (.lst (acc ++ [y]))) else Nx H3) hgx (fun D T0 nT => body_plain nT) (by decide)
      (rdE_imp (rd_sasg h) fun v H q => gname_wk q)
theorem r_setComp2 {mu : Bool} {vs1 : List Nat} (hc : X.calm = true) (hN : X.N.Nodup) (hy : X.N[i]? = some y) (hyl : X.env.scope.names.lookup y = some .local) (hsw : swapsWith (.ListComp elt [⟨tg, iter, ifs, 0⟩, ⟨tg1, iter1, ifs1, 0⟩] scope pos) (some (.Name y py)) spos.line X.env = pure true)
    (hi : PI X tg iter (rdI (kxOf X ex) mi' Wx)) (ok : BlkOk X.N X.env.scope scope own) (hv : ∀ i ∈ vs1, i ∈ own.map (·.2)) (hgx : ∀ i ∈ gIx g, i ∈ own.map (·.2)) (hgx1 : ∀ i ∈ gIx g1, i ∈ vs1)
    (hg : ∀ (s : Shared) (H : Hp) (C : Addr) (cl : List (Str × Addr)) (fp : List Addr), PG (X.blk s H scope (compEnvC scope cl C X.env) fp) tg (rdG (kxOf X ex) g)) (ht : ∀ (s : Shared) (H : Hp) (C : Addr) (cl : List (Str × Addr)) (fp : List Addr), PTs (X.blk s H scope (compEnvC scope cl C X.env) fp) ifs (rdT (kxOf X ex) t FW))
    (hi1 : ∀ (s : Shared) (H : Hp) (C : Addr) (cl : List (Str × Addr)) (fp : List Addr), PI (X.blk s H scope (compEnvC scope cl C X.env) fp) tg1 iter1 (rdI (kxOf X ex) mi1 FW))
    (hg1 : ∀ (s : Shared) (H : Hp) (C : Addr) (cl : List (Str × Addr)) (fp : List Addr), PG (X.blk s H scope (compEnvC scope cl C X.env) fp) tg1 (rdG (kxOf X ex) g1)) (ht1 : ∀ (s : Shared) (H : Hp) (C : Addr) (cl : List (Str × Addr)) (fp : List Addr), PTs (X.blk s H scope (compEnvC scope cl C X.env) fp) ifs1 (rdT (kxOf X ex) t1 FW))
    (he : ∀ (s : Shared) (H : Hp) (C : Addr) (cl : List (Str × Addr)) (fp : List Addr), PE (X.blk s H scope (compEnvC scope cl C X.env) fp) elt (rdE (kxOf X ex) m FW)) (hs : ∀ x, foldedSetIterable iter X.env x = pure x) (hs1 : ∀ env x, foldedSetIterable iter1 env x = pure x) :
    PS X (.Assign [.Name y py] (.ListComp elt [⟨tg, iter, ifs, 0⟩, ⟨tg1, iter1, ifs1, 0⟩] scope pos) spos) (rdS (kxOf X ex) (sAsg (.nm i) (mComp2 mu mi' g (own.map (·.2)) t mi1 g1 vs1 t1 m)) Wx) :=
  (ps_setLc2 hc hN hy hyl hsw hi ok hv hg ht hi1 hg1 ht1 he hs hs1).wk fun E σ H h =>
    rd_compG (B := fun D σ3 H' Nx => rdT (kxOf X ex) t FW σ3 H' fun b H3 => if b = true then rdI (kxOf X ex) mi1 FW σ3 H3 fun J H4 => loopW J Nx (rdG (kxOf X ex) g1) σ3 vs1 (fun σ3 H' Nx => rdT (kxOf X ex) t1 FW σ3 H' fun b H3 => if b = true then rdE (kxOf X ex) m FW σ3 H3 fun y H4 => ∃ acc, H4 D = some (.lst acc) ∧ acc.length < sizeLine ∧ Nx (upd H4 D (.lst (acc ++ [y]))) else Nx H3) H4 else Nx H3) hgx (fun D T0 nT => body_inner nT hgx1 (body_plain nT)) (by decide)
      (rdE_imp (rd_sasg h) fun v H q => gname_wk q)
/-! ## l.remove(k), l a list of ints -/
def intsD : List D → Option (List Int)
  | [] => some []
  | .p (.int i) :: r => (intsD r).map (i :: ·)
  | _ :: _ => none
theorem intsD_eq : ∀ {ds : List D} {ns : List Int}, intsD ds = some ns → ds = ns.map fun i => .p (.int i)
  | [], _, h => by cases h; rfl
  | .p x :: r, ns, h => by
    cases x with
    | int i =>
      have h' : (intsD r).map (i :: ·) = some ns := h
      cases q : intsD r with
      | none => rw [q] at h'; cases h'
      | some ms =>
        rw [q] at h'
        cases h'
        rw [intsD_eq q]; rfl
    | _ => cases h
  | .loc _ :: _, _, h => by cases h
def removeG : D → List D → Sto → Option (D × Sto) := fun o xs st => match o, xs with
  | .loc n, [.p (.int k)] => (match st[n]? with
    | some (.lst ds) => (match intsD ds with
      | some ns => (match ns.findIdx? (fun z => decide (z = k)) with
        | some j => some (.p .none, st.set n (.lst ((ns.eraseIdx j).map fun i => .p (.int i))))
        | none => none)
      | none => none)
    | _ => none)
  | _, _ => none
theorem rel_intsD {K : PySem.W.Frag} {w : Wd} : ∀ {ns : List Int} {vs : List V}, RelL K w (ns.map fun i => .p (.int i)) vs → vs = ns.map V.int
  | [], _, .nil => rfl
  | i :: r, _, .cons a b => by
    have a' : Dq K w.W _ (.int i) := a
    rw [Dq.int_inv a', rel_intsD b]; rfl
theorem intsD_rel {K : PySem.W.Frag} {w : Wd} : ∀ ns : List Int, RelL K w (ns.map fun i => .p (.int i)) (ns.map V.int)
  | [] => .nil
  | i :: r => .cons (show Dq K w.W (.int i) (.int i) from .int i) (intsD_rel r)
theorem m_remove : MtM X "list.remove" (rdM (kxOf X ex) removeG) := by
  intro pins s σ H x vs v us Q I rx rv h
  obtain ⟨w, d, xs, st, r1, rl, hH, d', st', e, fin⟩ := h
  unfold removeG at e
  split at e
  · rename_i n k
    split at e
    · rename_i ds q
      split at e
      · rename_i ns qn
        split at e
        · rename_i j qj
          cases e
          have eds := intsD_eq qn
          subst eds
          obtain ⟨a, rfl, ha⟩ := r1
          obtain ⟨o, ho, vs', rfl, rl'⟩ := hH.obs n a _ ha q
          cases rl with
          | cons r2 r3 =>
            cases r3
            have r2' : Dq X.K w.W _ (.int k) := r2
            have z := Dq.int_inv r2'
            subst z
            have ev := rel_intsD rl'
            subst ev
            obtain ⟨hj1, hj2, hj3⟩ := List.findIdx?_eq_some_iff_getElem.mp qj
            refine mt_remove pins s σ H _ _ v us Q I rx rv ⟨a, ns, k, j, rfl, rfl, ho, by rw [List.getElem?_eq_getElem hj1]; congr 1; simpa using hj2, fun m hm e => ?_, ?_⟩
            · have hml : m < ns.length := by omega
              rw [List.getElem?_eq_getElem hml] at e
              have := hj3 m hm
              simp only [decide_eq_true_eq] at this
              exact this (Option.some.inj e)
            · have hw : Wf1 n (.lst ((ns.eraseIdx j).map fun i => D.p (.int i))) := no_loc
              exact fin w _ .non (Wd.Le.refl w) (Hold.write hH ha ⟨_, rfl, intsD_rel _⟩ hw) .non
        · cases e
      · cases e
    · cases e
  · cases e
/-! ## o[i], q[j] = c, d -/
def setM (mo mi : Env' → M D) (v : D) : Env' → M Unit := fun env => bnd (mo env) fun o => bnd (mi env) fun i => fun st => match setG o i v st with
  | some st' => .ok () st'
  | none => .bad
def sSwp (ms : Env' → M (List D)) (mo mi mq mj : Env' → M D) : MS := fun env => sbnd (bnd (ms env) fun ds => match pures ds with
  | some [x, y] => bnd (setM mo mi (.p x) env) fun _ => setM mq mj (.p y) env
  | _ => bad) env fun _ st => .nx env st
theorem rd_setM {o i : Expr} {v : V} {x : PyData} {env : Env'} {C : Unit → Sto → Wd → Hp → Prop} {Q : Hp → Prop} (hE : RelE (kxOf X ex) w env σ) (hH : HoldK (kxOf X ex) w st H) (r : Dq X.K w.W v x) (hp : PostG (kxOf X ex) Wx σ w (setM mo mi (.p x) env st) C) (hq : ∀ st' w' H', w.Le w' → HoldK (kxOf X ex) w' st' H' → C () st' w' H' → Q H') :
    gSub (rdE (kxOf X ex) mo Wx) (rdE (kxOf X ex) mi Wx) rSetL v σ H (fun _ H => Q H) := by
  refine ⟨w, env, st, hE, hH, (PostG.bnd hp).imp fun ov st2 w2 H2 le2 hH2 hp3 vo ro => ?_⟩
  have hE2 := hE.mono le2.toLc
  refine ⟨w2, env, st2, hE2, hH2, (PostG.bnd hp3).imp fun iv st3 w3 H3 le3 hH3 hp4 vi ri => ?_⟩
  have ro3 := ro.mono le3.toLc
  have rv3 : RelD X.K w3 (.p x) v := Dq.mono (fun a o e => (le2.trans le3).W a o e) _ _ r
  cases q : setG ov iv (.p x) st3 with
  | none => rw [q] at hp4; exact hp4.elim
  | some st4 =>
    rw [q] at hp4
    simp only at hp4
    unfold setG at q
    split at q
    · rename_i n k
      split at q
      · rename_i ds qd
        split at q
        · rename_i hv
          split at q
          · rename_i j qj
            cases q
            obtain ⟨a, rfl, hla⟩ := ro3
            obtain ⟨ob, hob, vs', rfl, rl'⟩ := hH3.obs n a _ hla qd
            have ri' : Dq X.K w3.W vi (.int k) := ri
            have z := Dq.int_inv ri'
            subst z
            refine ⟨a, vs', k, j, rfl, rfl, hob, by rw [← rl'.length]; exact qj, ?_⟩
            have hw : Wf1 n (.lst (ds.set j (.p x))) := fun j' m => by
              rcases List.mem_or_eq_of_mem_set m with m | m
              · exact (wf_at hH3 qd : Wf1 n (.lst ds)) j' m
              · cases m
            have hI : HoldK (kxOf X ex) w3 (st3.set n (.lst (ds.set j (.p x)))) (upd H3 a (.lst (vs'.set j v))) := Hold.write hH3 hla ⟨_, rfl, RelL.set rv3 j rl'⟩ hw
            exact hq _ w3 _ (le2.trans le3) hI (hp4 w3 _ (Wd.Le.refl w3) hI)
          · cases q
        · cases q
      · cases q
    · cases q
theorem r_sswp {o i q j c d : Expr} {p1 p2 pt pt2 : Pos} {k k2 : Nat} (hc : X.calm = true) (hv : PA X [c, d] (rdA (kxOf X ex) ms Wx)) (ho : PE X o (rdE (kxOf X ex) mo Wx)) (hi : PE X i (rdE (kxOf X ex) mi Wx)) (hq : PE X q (rdE (kxOf X ex) mq Wx)) (hj : PE X j (rdE (kxOf X ex) mj Wx))
    (hw : swappedStores [.Tuple [.Subscript o i p1, .Subscript q j p2] k pt] (.Tuple [c, d] k2 pt2) X.env = pure none)
    (ha : ∀ v, assign (.Subscript o i p1) X.env v = (do
      let ov ← holding [v] (eval o X.env)
      let iv ← holding [v, ov] (eval i X.env)
      standAt p1
      holding [v, ov, iv] (setItem ov iv v)
      release [v, ov, iv] []))
    (hb : ∀ v, assign (.Subscript q j p2) X.env v = (do
      let ov ← holding [v] (eval q X.env)
      let iv ← holding [v, ov] (eval j X.env)
      standAt p2
      holding [v, ov, iv] (setItem ov iv v)
      release [v, ov, iv] [])) : PS X (.Assign [.Tuple [.Subscript o i p1, .Subscript q j p2] k pt] (.Tuple [c, d] k2 pt2) pos) (rdS (kxOf X ex) (sSwp ms mo mi mq mj) Wx) :=
  (ps_asg (pe_tup hv) (pg_tup hc (pgs_cons (pg_sub ho hi set_list ha) (pgs_cons (pg_sub hq hj set_list hb) pgs_nil rfl) rfl) rfl rfl) rfl hw rfl).wk fun E σ H h => by
    obtain ⟨w, env, st, hE, hH, hp⟩ := h
    have hp1 := PostG.bnd (PostS.bnd hE hp)
    refine ⟨w, env, st, hE, hH, hp1.imp fun ds st1 w1 H1 le1 hH1 hp2 vs rl => ?_⟩
    obtain ⟨x, y, qp, hp2⟩ : ∃ x y, pures ds = some [x, y] ∧ PostG (kxOf X ex) Wx σ w1 (bnd (setM mo mi (.p x) env) (fun _ => setM mq mj (.p y) env) st1) (fun a st1 w1 _ => PostS (kxOf X ex) Wx E w1 (.nx env st1)) := by
      cases q : pures ds with
      | none => rw [q] at hp2; exact hp2.elim
      | some l =>
        rw [q] at hp2
        match l, hp2 with
        | [], hp2 => exact hp2.elim
        | [_], hp2 => exact hp2.elim
        | [x, y], hp2 => exact ⟨x, y, rfl, hp2⟩
        | _ :: _ :: _ :: _, hp2 => exact hp2.elim
    · have := pures_eq qp
      subst this
      have rp := RelL.pure (ds := [x, y]) rl
      cases rp with
      | cons r1 rr =>
        cases rr with
        | cons r2 rr =>
          cases rr
          rename_i v u
          refine ⟨by rw [sizeLine_eq]; show 2 ≤ _; omega, fun p np => ?_⟩
          have n2 : w1.W p = none := hH1.free np
          have le := Wd.le_imm (w := w1) (p := p) (o := .tup [v, u]) n2
          have hI := Hold.imm_new (o := .tup [v, u]) hH1 np trivial
          refine ⟨p, [v, u], rfl, SqT.of upd_same, rfl, v, [u], rfl, ?_⟩
          have hE2 := (hE.mono le1.toLc).mono le.toLc
          have hp3 := PostG.bnd (PostG.anti le hp2)
          refine rd_setM (o := o) (i := i) hE2 hI (Dq.mono (fun a o e => le.W a o e) _ _ r1) hp3 fun st5 w5 H5 le5 hH5 hp5 => ?_
          refine ⟨u, [], rfl, ?_⟩
          refine rd_setM (o := q) (i := j) (hE2.mono le5.toLc) hH5 (Dq.mono (fun a o e => (le.trans le5).W a o e) _ _ r2) hp5 fun st6 w6 H6 le6 hH6 hp6 => ?_
          exact ⟨rfl, hp6 w6 σ _ (Wd.Le.refl _) hH6 ((hE2.mono le5.toLc).mono le6.toLc)⟩
/-! ## list(range(..)), tuple(range(..)) -/
def rngArg (n : Nat) (ds : List D) : Option (Int × Int) := if ds.length = n then (match ds with
  | [.p (.int j)] => some (0, j)
  | [.p (.int i), .p (.int j)] => some (i, j)
  | _ => none) else none
def rngOkB (q : Int × Int) : Bool := smallI q.1 && (smallI q.2 && decide ((q.2 - q.1).toNat ≤ 1000000))
theorem rngOkB_ok {q : Int × Int} (h : rngOkB q = true) : RgOk q.1 q.2 := by
  unfold rngOkB at h
  rw [Bool.and_eq_true, Bool.and_eq_true] at h
  obtain ⟨h1, h2⟩ := smallI_ok h.1
  obtain ⟨h3, h4⟩ := smallI_ok h.2.1
  have := of_decide_eq_true h.2.2
  exact ⟨h1, h2, h3, h4, by omega⟩
def rgD (a b : Int) : List PyData := (List.range (b - a).toNat).map fun (i : Nat) => .int (a + (i : Nat))
def rngLst (n : Nat) : FnL := fun ds st => match rngArg n ds with
  | some q => if rngOkB q = true then some (.p (.list (rgD q.1 q.2)), st) else none
  | none => none
def rngTup (n : Nat) : FnL := fun ds st => match rngArg n ds with
  | some q => if rngOkB q = true then some (.p (.tuple (rgD q.1 q.2)), st) else none
  | none => none
def rngMut (n : Nat) : FnL := fun ds st => match rngArg n ds with
  | some q => if rngOkB q = true then some (.loc st.length, st ++ [.lst ((rgD q.1 q.2).map D.p)]) else none
  | none => none
theorem rg_dq {K : PySem.W.Frag} {W : Hp} {a : Int} : ∀ l : List Nat, DqAll K W (l.map fun i => V.int (a + (i : Nat))) (l.map fun (i : Nat) => PyData.int (a + (i : Nat)))
  | [] => .nil
  | i :: r => .cons (.int _) (rg_dq r)
theorem rgArg1 {a : Expr} {p pos : Pos} (hg : Gl X "range") (hm : X.mg "range" = none) (ha : PA X [a] (rdA (kxOf X ex) ms Wx)) (na : starEach [a] X.env = (false, eval a X.env) :: starEach [] X.env) : PRg X (.Call (.Name "range" p) [a] [] pos) (fun σ H Q => rdA (kxOf X ex) ms Wx σ H fun vs H1 => ∃ n, vs = [.int n] ∧ Q 0 n H1) := by
  intro pins s σ H Q I h
  refine Call_ (ld_blt I hg hm boot_range (PyProof.Rows.callWith_type1 (thn (ha.run pos pins s σ H _ I h) fun us s1 ⟨vs, H1, I1, r1, q1⟩ => ?_) na rfl))
  obtain ⟨n, rfl, q⟩ := q1
  obtain ⟨u, rfl, ru⟩ := r1.one
  obtain ⟨t, rfl⟩ := ru
  exact call_range_1 ⟨_, 0, n, _, _, _, H1, rfl, IsRange.new _ _ _ _ _ _ _, I1.kept fun b u e => Heap.get?_push_of_some _ e, q⟩
theorem rgArg2 {a b : Expr} {p pos : Pos} (hg : Gl X "range") (hm : X.mg "range" = none) (ha : PA X [a, b] (rdA (kxOf X ex) ms Wx)) (na : starEach [a, b] X.env = (false, eval a X.env) :: starEach [b] X.env) (hpl : (backTo pos (starEach [b] X.env)).any (·.1) = false) : PRg X (.Call (.Name "range" p) [a, b] [] pos) (fun σ H Q => rdA (kxOf X ex) ms Wx σ H fun vs H1 => ∃ i j, vs = [.int i, .int j] ∧ Q i j H1) := by
  intro pins s σ H Q I h
  refine Call_ (ld_blt I hg hm boot_range (PyProof.Rows.callWith_type1 (thn (ha.run pos pins s σ H _ I h) fun us s1 ⟨vs, H1, I1, r1, q1⟩ => ?_) na hpl))
  obtain ⟨i, j, rfl, q⟩ := q1
  cases r1 with
  | cons ra rr =>
    cases rr with
    | cons rb rr =>
      cases rr
      obtain ⟨t, rfl⟩ := ra
      obtain ⟨t', rfl⟩ := rb
      exact call_range_2 ⟨_, i, j, _, _, _, H1, rfl, IsRange.new _ _ _ _ _ _ _, I1.kept fun b u e => Heap.get?_push_of_some _ e, q⟩
def rgF (x : Str) (mu : Bool) (n : Nat) : FnL := if x = "tuple" then rngTup n else if mu = true then rngMut n else rngLst n
/-- what is wanted of the arguments of the range -/
theorem rdRg {n : Nat} {g : FnL} {Q : VK} {T : Int → Int → Hp → Prop} (h : rdE (kxOf X ex) (mL ms g) Wx σ H Q) (hg : ∀ ds st r, g ds st = some r → ∃ q, rngArg n ds = some q) (hT : ∀ (w : Wd) (st : Sto) (H : Hp) (ds : List D) (q : Int × Int), HoldK (kxOf X ex) w st H → rngArg n ds = some q → Fin (kxOf X ex) w (g ds st) Q → T q.1 q.2 H) :
    rdA (kxOf X ex) ms Wx σ H fun vs H1 => ∃ q : Int × Int, vs.length = n ∧ (vs = [.int q.2] ∧ q.1 = 0 ∨ vs = [.int q.1, .int q.2]) ∧ T q.1 q.2 H1 := by
  obtain ⟨w, env, st, hE, hH, hp⟩ := rd_mL h
  refine ⟨w, env, st, hE, hH, hp.imp fun ds st1 w1 H1 le hH1 k vs rl => ?_⟩
  obtain ⟨w2, ds2, st2, rl2, hH2, fin⟩ := k vs rl
  obtain ⟨d, st', e, f⟩ := fin
  obtain ⟨q, hq⟩ := hg _ _ _ e
  have hq0 := hq
  unfold rngArg at hq
  split at hq
  rotate_left
  · cases hq
  rename_i hln
  refine ⟨q, by rw [← rl2.length, hln], ?_, hT w2 st2 _ ds2 q hH2 hq0 ⟨d, st', e, f⟩⟩
  split at hq
  · cases hq
    cases rl2 with
    | cons r1 rr =>
      cases rr
      have r1' : Dq X.K w2.W _ (.int _) := r1
      exact .inl ⟨by rw [Dq.int_inv r1'], rfl⟩
  · cases hq
    cases rl2 with
    | cons r1 rr =>
      cases rr with
      | cons r2 rr =>
        cases rr
        have r1' : Dq X.K w2.W _ (.int _) := r1
        have r2' : Dq X.K w2.W _ (.int _) := r2
        exact .inr (by rw [Dq.int_inv r1', Dq.int_inv r2'])
  · cases hq
theorem fin_rngLst {n : Nat} {ds : List D} {q : Int × Int} {Q : VK} (hH : HoldK (kxOf X ex) w st H) (hq : rngArg n ds = some q) (h : Fin (kxOf X ex) w (rngLst n ds st) Q) : RgOk q.1 q.2 ∧ ∀ p, H p = none → Q (.ref p) (upd H p (.lst (rgV q.1 q.2))) := by
  obtain ⟨d, st', e, fin⟩ := h
  unfold rngLst at e
  rw [hq] at e
  simp only at e
  split at e
  · rename_i hk
    cases e
    exact ⟨rngOkB_ok hk, fun p np => fin_lst (κ := kxOf X ex) hH np (rg_dq _) fin⟩
  · cases e
theorem fin_rngTup {n : Nat} {ds : List D} {q : Int × Int} {Q : VK} (hH : HoldK (kxOf X ex) w st H) (hq : rngArg n ds = some q) (h : Fin (kxOf X ex) w (rngTup n ds st) Q) : RgOk q.1 q.2 ∧ ∀ p, H p = none → Q (.ref p) (upd H p (.tup (rgV q.1 q.2))) := by
  obtain ⟨d, st', e, fin⟩ := h
  unfold rngTup at e
  rw [hq] at e
  simp only at e
  split at e
  · rename_i hk
    cases e
    exact ⟨rngOkB_ok hk, fun p np => fin_tup (κ := kxOf X ex) hH np (rg_dq _) fin⟩
  · cases e
theorem fin_rngMut {n : Nat} {ds : List D} {q : Int × Int} {Q : VK} (hH : HoldK (kxOf X ex) w st H) (hq : rngArg n ds = some q) (h : Fin (kxOf X ex) w (rngMut n ds st) Q) : RgOk q.1 q.2 ∧ ∀ p, H p = none → Q (.ref p) (upd H p (.lst (rgV q.1 q.2))) := by
  obtain ⟨d, st', e, fin⟩ := h
  unfold rngMut at e
  rw [hq] at e
  simp only at e
  split at e
  · rename_i hk
    cases e
    exact ⟨rngOkB_ok hk, fun p np => fin_mut (κ := kxOf X ex) hH np (RelL.of (rg_dq _)) wf_pure fin⟩
  · cases e
theorem arg_rngLst {n : Nat} : ∀ ds st r, rngLst n ds st = some r → ∃ q, rngArg n ds = some q := fun ds st r h => by
  unfold rngLst at h
  split at h
  · exact ⟨_, by assumption⟩
  · cases h
theorem arg_rngTup {n : Nat} : ∀ ds st r, rngTup n ds st = some r → ∃ q, rngArg n ds = some q := fun ds st r h => by
  unfold rngTup at h
  split at h
  · exact ⟨_, by assumption⟩
  · cases h
theorem arg_rngMut {n : Nat} : ∀ ds st r, rngMut n ds st = some r → ∃ q, rngArg n ds = some q := fun ds st r h => by
  unfold rngMut at h
  split at h
  · exact ⟨_, by assumption⟩
  · cases h
/-- the reading, by the range's own -/
def RgRd (X : Cx) (ex : Nat → Addr) (Wx : WX) (n : Nat) (e : Expr) (ms : Env' → M (List D)) : Prop := PRg X e fun σ H Q => rdA (kxOf X ex) ms Wx σ H fun vs H1 => ∃ q : Int × Int, vs.length = n ∧ (vs = [.int q.2] ∧ q.1 = 0 ∨ vs = [.int q.1, .int q.2]) ∧ Q q.1 q.2 H1
theorem rdA_imp {m : Env' → M (List D)} {Q Q' : List V → Hp → Prop} (h : rdA κ m Wx σ H Q) (q : ∀ v H, Q v H → Q' v H) : rdA κ m Wx σ H Q' := by
  obtain ⟨w, env, st, hE, hH, hp⟩ := h
  exact ⟨w, env, st, hE, hH, hp.imp fun d st' w' H' _ _ k v r => q v _ (k v r)⟩
theorem r_rgCall {n : Nat} {x : Str} {mu : Bool} {e : Expr} {p pos : Pos} (hc : X.calm = true) (hx : x = "list" ∨ x = "tuple") (hg : Gl X x) (hm : X.mg x = none) (he : RgRd X ex Wx n e ms) (na : starEach [e] X.env = (false, eval e X.env) :: starEach [] X.env) :
    PE X (.Call (.Name x p) [e] [] pos) (rdE (kxOf X ex) (mL ms (rgF x mu n)) Wx) := by
  rcases hx with rfl | rfl
  · cases mu with
    | true => exact (pe_listRg hc hg hm he na).wk fun σ H Q h => rdRg (g := rngMut n) (T := fun a b H => RgOk a b ∧ ∀ p, H p = none → Q (.ref p) (upd H p (.lst (rgV a b)))) h arg_rngMut fun w st H ds q hH hq f => fin_rngMut hH hq f
    | false => exact (pe_listRg hc hg hm he na).wk fun σ H Q h => rdRg (g := rngLst n) (T := fun a b H => RgOk a b ∧ ∀ p, H p = none → Q (.ref p) (upd H p (.lst (rgV a b)))) h arg_rngLst fun w st H ds q hH hq f => fin_rngLst hH hq f
  · exact (pe_tupRg hc hg hm he na).wk fun σ H Q h => rdRg (g := rngTup n) (T := fun a b H => RgOk a b ∧ ∀ p, H p = none → Q (.ref p) (upd H p (.tup (rgV a b)))) h arg_rngTup fun w st H ds q hH hq f => fin_rngTup hH hq f
theorem rgRd1 {a : Expr} {p pos : Pos} (hg : Gl X "range") (hm : X.mg "range" = none) (ha : PA X [a] (rdA (kxOf X ex) ms Wx)) (na : starEach [a] X.env = (false, eval a X.env) :: starEach [] X.env) : RgRd X ex Wx 1 (.Call (.Name "range" p) [a] [] pos) ms := by
  intro pins s σ H Q I h
  refine rgArg1 hg hm ha na pins s σ H Q I (rdA_imp h fun vs H1 ⟨q, hl, e, hq⟩ => ?_)
  rcases e with ⟨rfl, e⟩ | rfl
  · exact ⟨q.2, rfl, by rw [← e]; exact hq⟩
  · cases hl
theorem rgRd2 {a b : Expr} {p pos : Pos} (hg : Gl X "range") (hm : X.mg "range" = none) (ha : PA X [a, b] (rdA (kxOf X ex) ms Wx)) (na : starEach [a, b] X.env = (false, eval a X.env) :: starEach [b] X.env) (hpl : (backTo pos (starEach [b] X.env)).any (·.1) = false) : RgRd X ex Wx 2 (.Call (.Name "range" p) [a, b] [] pos) ms := by
  intro pins s σ H Q I h
  refine rgArg2 hg hm ha na hpl pins s σ H Q I (rdA_imp h fun vs H1 ⟨q, hl, e, hq⟩ => ?_)
  rcases e with ⟨rfl, e⟩ | rfl
  · cases hl
  · exact ⟨q.1, q.2, rfl, hq⟩
end
end Fw
set_option Elab.async false
set_option linter.all false
set_option maxRecDepth 100000
set_option maxHeartbeats 4000000
namespace Fw
open PySem PySem.Spec PyProof.Rows L2

/-! ## from a text to its computation -/
structure Tr where
  E : Ck → Expr → Option (Env' → M D)
  T : Ck → Expr → Option (Env' → M Bool)
  W : Ck → BoolOp → List Expr → Option (Env' → M Bool)
  V : Ck → BoolOp → List Expr → Option (Env' → M D)
  A : Ck → List Expr → Option (Env' → M (List D))
  I : Ck → Expr → Expr → Option (Env' → M Src)
  O : Ck → Option Expr → Option (Env' → M (Option Int))
  G : Ck → Expr → Option G
  L : Ck → List Expr → Option Gs
structure Tr.Ok (t : Tr) : Prop where
  E : ∀ {C X ex k Wx e m}, Good C X ex k Wx → t.E C e = some m → PE X e (rdE (kxOf X ex) m Wx)
  T : ∀ {C X ex k Wx e m}, Good C X ex k Wx → t.T C e = some m → PT X e (rdT (kxOf X ex) m Wx)
  W : ∀ {C X ex k Wx op es m}, Good C X ex k Wx → t.W C op es = some m → ∀ pos, PW X (.BoolOp op es pos) (rdT (kxOf X ex) m Wx)
  V : ∀ {C X ex k Wx op es m}, Good C X ex k Wx → t.V C op es = some m → ∀ pos, PE X (.BoolOp op es pos) (rdE (kxOf X ex) m Wx)
  A : ∀ {C X ex k Wx es m}, Good C X ex k Wx → t.A C es = some m → PA X es (rdA (kxOf X ex) m Wx)
  I : ∀ {C X ex k Wx tg e m}, Good C X ex k Wx → t.I C tg e = some m → PI X tg e (rdI (kxOf X ex) m Wx)
  O : ∀ {C X ex k Wx e m}, Good C X ex k Wx → t.O C e = some m → PO X e (rdO (kxOf X ex) m Wx)
  G : ∀ {C X ex k Wx e m}, Good C X ex k Wx → t.G C e = some m → PG X e (rdG (kxOf X ex) m)
  L : ∀ {C X ex k Wx e m}, Good C X ex k Wx → t.L C e = some m → PGs X e (rdGs (kxOf X ex) m) ∧ (∀ env, (assignEach e env).length = m.len ∧ (assignEach e env).findIdx? (·.1) = none)
def nStar (es : List Expr) : Bool := es.all nst
theorem asg1 {e : Expr} {es : List Expr} {env : Env} (h : nst e = true) : assignEach (e :: es) env = (false, assign e env) :: assignEach es env := by
  cases e <;> first | rfl | cases h
/-- the block of a comprehension -/
def ownOf (N : List Str) (s : Scope) : List (Str × Nat) := s.names.filterMap fun q => match q.2 with
  | .local => (ixOf N q.1).map fun i => (q.1, i)
  | .cell => (ixOf N q.1).map fun i => (q.1, i)
  | _ => none
def Ck.inner (C : Ck) (s : Scope) : Ck := { C with sc := relS s C.sc, blk := some s }
theorem Good.inner {C : Ck} {X : Cx} {ex : Nat → Addr} {k : Nat} {Wx : WX} (G : Good C X ex k Wx) (scope : Scope) (s : Shared) (H : Hp) (A : Addr) (cl : List (Str × Addr)) (fp : List Addr) : Good (C.inner scope) (X.blk s H scope (compEnvC scope cl A X.env) fp) ex k FW :=
  ⟨G.calm, G.N, G.nd, by
    show relS scope X.env.scope = relS scope C.sc
    rw [G.sc], rfl, G.free, G.glo, fun x q h => by
    obtain ⟨ps, h1, h2⟩ := G.funs x q h
    exact ⟨ps, h1, ⟨h2.at_⟩⟩, fun x c h => ⟨(G.exs x c h).g, (G.exs x c h).k, (G.exs x c h).e, (G.exs x c h).r⟩, G.isa, takes0, G.room⟩
def muB (C : Ck) (pos : Pos) : Bool := decide (pos.line * 1000 + pos.col ∈ C.mu)
def isN : Expr → Option Str
  | .Name x _ => some x
  | _ => none
def dctN (C : Ck) (e : Expr) : Bool := match isN e with
  | some x => decide (x ∈ C.dct)
  | none => false
def cmpC (C : Ck) (op : CmpOp) (b : Expr) : Option Fn2 := if dctN C b = true then (match op with
  | .In => some hasD
  | .NotIn => some hasND
  | _ => none) else cmpG op
def mth1 (name : Str) : Option (D → List D → Sto → Option (D × Sto)) := if name = "pop" then some popAtG else if name = "append" then some appendG else if name = "extend" then some extendG else if name = "remove" then some removeG else none
def bu1s (x : Str) : Option FnL := if x = "sorted" then some (gL1 sortG) else bu1 x
def bu1m (C : Ck) (pos : Pos) (x : Str) : Option FnL := if x = "list" ∧ muB C pos = true then some (gL1 lstM) else bu1s x
def rgA (C : Ck) (x : Str) (es : List Expr) : Option (List Expr) := match es with
  | [.Call (.Name y _) [a] [] _] => if (x = "list" ∨ x = "tuple") ∧ y = "range" ∧ frB C x = true ∧ frB C y = true ∧ nst a = true then some [a] else none
  | [.Call (.Name y _) [a, b] [] _] => if (x = "list" ∨ x = "tuple") ∧ y = "range" ∧ frB C x = true ∧ frB C y = true ∧ nst a = true ∧ nst b = true then some [a, b] else none
  | _ => none
def ifs (t : Tr) (C : Ck) : List Expr → Option (Env' → M Bool)
  | [] => some tTr
  | [c] => t.T C c
  | _ => none
def stepE (t : Tr) (C : Ck) : Expr → Option (Env' → M D)
  | .Constant (.int i) _ _ => some (mC (.int i))
  | .Constant (.bool b) _ _ => some (mC (.bool b))
  | .Constant (.str z) _ _ => some (mC (.str z))
  | .Constant .none _ _ => some (mC .none)
  | .Name x _ => if visB C x = true then (ixOf C.N x).map mVar else if glB C x = true then (C.glo.lookup x).map mC else none
  | .BinOp a op b _ => do let ma ← t.E C a; let mb ← t.E C b; let g ← binG op; some (m2 ma mb g)
  | .UnaryOp .USub a _ => do let ma ← t.E C a; some (m1 ma (lift1 1 negP))
  | .UnaryOp .Not a _ => do let ma ← t.E C a; some (mNot ma)
  | .Compare a [op] [b] _ => if nSet b = true then do let ma ← t.E C a; let mb ← t.E C b; let g ← cmpC C op b; some (m2 ma mb g) else none
  | .BoolOp op es _ => t.V C op es
  | .IfExp c a b _ => do let tc ← t.T C c; let ma ← t.E C a; let mb ← t.E C b; some (mIf tc ma mb)
  | .Tuple es _ _ => do let ms ← t.A C es; some (mL ms gTupD)
  | .List es pos => do let ms ← t.A C es; some (if muB C pos = true then mL ms gMutD else mL ms gLstD)
  | .Dict [] [] _ => some mNewD
  | .Subscript a (.Slice none none (some (.UnaryOp .USub (.Constant (.int 1) _ _) _)) _) _ => do let ma ← t.E C a; some (m1 ma (lift1 1 revP))
  | .Subscript a (.Slice lo hi none _) _ => do let ma ← t.E C a; let ml ← t.O C lo; let mh ← t.O C hi; some (mSl ma ml mh)
  | .Subscript a b _ => if nSl b = true then do let ma ← t.E C a; let mb ← t.E C b; some (m2 ma mb (if dctN C a = true then getD else ixG)) else none
  | .Call (.Name x _) [a, .Name y p2] [] pos =>
    if x = "isinstance" then (if frB C x = true ∧ frB C y = true ∧ nst a = true then do let c ← clOf y; let ma ← t.E C a; some (m1 ma (lift1 3 (isiP c))) else none)
    else if nStar [a, .Name y p2] = true then (match C.funs.lookup x with
      | some q => if glB C x = true then do let ms ← t.A C [a, .Name y p2]; some (mCall ms (sized q.1 q.2)) else none
      | none => if frB C x = true then do let g ← bu2 x; let ms ← t.A C [a, .Name y p2]; some (mL ms g) else none) else none
  | .Call (.Name x _) (a :: es) [] pos =>
    if nStar (a :: es) = true then (match C.funs.lookup x with
      | some q => if glB C x = true then do let ms ← t.A C (a :: es); some (mCall ms (sized q.1 q.2)) else none
      | none => (match rgA C x (a :: es) with
        | some args => do let ms ← t.A C args; some (mL ms (rgF x (muB C pos) args.length))
        | none => if frB C x = true then do let g ← (if es.length = 0 then bu1m C pos x else bu2 x); let ms ← t.A C (a :: es); some (mL ms g) else none)) else none
  | .Call (.Name x _) [a] [⟨some nm, .Constant (.bool b) _ _, _⟩] _ => if x = "sorted" ∧ nm = "reverse" ∧ frB C x = true ∧ nst a = true then do let ms ← t.A C [a]; some (mL ms (gL1 (sortK (some b)))) else none
  | .Call (.Attribute o name apos) [a] [] cpos => if nCl o = true ∧ nst a = true ∧ (apos.endLine == cpos.line) = true then do let mo ← t.E C o; let ms ← t.A C [a]; let g ← mth1 name; some (mMth mo ms g) else none
  | .ListComp elt [⟨tg, .Name x p, fs, 0⟩] scope pos => if visB C x = true ∧ blkC C.N C.sc scope (ownOf C.N scope) = true then do
      let i ← ixOf C.N x
      let g ← t.G (C.inner scope) tg
      let tc ← ifs t (C.inner scope) fs
      let m ← t.E (C.inner scope) elt
      if ((gIx g).all fun i => decide (i ∈ (ownOf C.N scope).map (·.2))) = true then some (mCompV (muB C pos) i g ((ownOf C.N scope).map (·.2)) tc m) else none
    else none
  | .ListComp elt [⟨tg, iter, fs, 0⟩] scope pos => if nSet iter = true ∧ blkC C.N C.sc scope (ownOf C.N scope) = true then do
      let mi ← t.I C tg iter
      let g ← t.G (C.inner scope) tg
      let tc ← ifs t (C.inner scope) fs
      let m ← t.E (C.inner scope) elt
      if ((gIx g).all fun i => decide (i ∈ (ownOf C.N scope).map (·.2))) = true then some (mComp (muB C pos) mi g ((ownOf C.N scope).map (·.2)) tc m) else none
    else none
  | .ListComp elt [⟨tg, iter, fs, 0⟩, ⟨tg1, iter1, fs1, 0⟩] scope pos => if nSet iter = true ∧ nSet iter1 = true ∧ blkC C.N C.sc scope (ownOf C.N scope) = true then do
      let mi ← t.I C tg iter
      let g ← t.G (C.inner scope) tg
      let tc ← ifs t (C.inner scope) fs
      let mi1 ← t.I (C.inner scope) tg1 iter1
      let g1 ← t.G (C.inner scope) tg1
      let tc1 ← ifs t (C.inner scope) fs1
      let m ← t.E (C.inner scope) elt
      if ((gIx g).all fun i => decide (i ∈ (ownOf C.N scope).map (·.2))) = true ∧ ((gIx g1).all fun i => decide (i ∈ (ownOf C.N scope).map (·.2))) = true then some (mComp2 (muB C pos) mi g ((ownOf C.N scope).map (·.2)) tc mi1 g1 (gIx g1) tc1 m) else none
    else none
  | _ => none
def stepT (t : Tr) (C : Ck) : Expr → Option (Env' → M Bool)
  | .UnaryOp .Not a _ => do let ta ← t.T C a; some (tNt ta)
  | .BoolOp op es _ => t.W C op es
  | .Compare a [op] [b] _ => if nSet b = true then do let ma ← t.E C a; let mb ← t.E C b; let g ← cmpC C op b; some (tB (m2 ma mb g)) else none
  | e => if tvB e = true then do let m ← t.E C e; some (tV m) else none
def stepW (t : Tr) (C : Ck) : BoolOp → List Expr → Option (Env' → M Bool)
  | _, [a] => t.T C a
  | .And, a :: b :: r => do let ta ← t.T C a; let tb ← t.W C .And (b :: r); some (tAn ta tb)
  | .Or, a :: b :: r => do let ta ← t.T C a; let tb ← t.W C .Or (b :: r); some (tOrr ta tb)
  | _, _ => none
def stepV (t : Tr) (C : Ck) : BoolOp → List Expr → Option (Env' → M D)
  | _, [a] => t.E C a
  | .And, a :: b :: r => do let ta ← t.E C a; let tb ← t.V C .And (b :: r); some (mAnd ta tb)
  | .Or, a :: b :: r => do let ta ← t.E C a; let tb ← t.V C .Or (b :: r); some (mOr ta tb)
  | _, _ => none
def stepA (t : Tr) (C : Ck) : List Expr → Option (Env' → M (List D))
  | [] => some aNil
  | a :: r => if nst a = true then do let m ← t.E C a; let ms ← t.A C r; some (aCons m ms) else none
def stepI (t : Tr) (C : Ck) (tg : Expr) : Expr → Option (Env' → M Src)
  | .Call (.Name x p) [a, b, c] [] pos => if x = "range" ∧ frB C x = true ∧ nst a = true ∧ nst b = true ∧ nst c = true then do let ms ← t.A C [a, b, c]; some (iArgs ms rng3) else do let m ← t.E C (.Call (.Name x p) [a, b, c] [] pos); some (iSeq m)
  | .Call (.Name x p) [a] [] pos => if x = "range" ∧ frB C x = true then (if nst a = true then do let ms ← t.A C [a]; some (iArgs ms rng1) else none)
    else if x = "enumerate" ∧ frB C x = true then (match tg with
      | .Tuple _ _ _ => if nst a = true then do let ms ← t.A C [a]; some (iArgs ms enum1) else none
      | _ => none)
    else do let m ← t.E C (.Call (.Name x p) [a] [] pos); some (iSeq m)
  | .Call (.Name x p) [a, b] [] pos => if x = "range" ∧ frB C x = true then (if nst a = true ∧ nst b = true then do let ms ← t.A C [a, b]; some (iArgs ms rng2) else none)
    else if x = "zip" ∧ frB C x = true then (match tg with
      | .Tuple _ _ _ => if nst a = true ∧ nst b = true then do let ms ← t.A C [a, b]; some (iArgs ms zip2) else none
      | _ => none)
    else do let m ← t.E C (.Call (.Name x p) [a, b] [] pos); some (iSeq m)
  | e => do let m ← t.E C e; some (iSeq m)
def stepO (t : Tr) (C : Ck) : Option Expr → Option (Env' → M (Option Int))
  | none => some oNone
  | some a => do let m ← t.E C a; some (oSome m)
def stepG (t : Tr) (C : Ck) : Expr → Option G
  | .Name x _ => if asgB C x = true then (ixOf C.N x).map .nm else none
  | .Tuple es _ _ => (t.L C es).map .tp
  | _ => none
def stepL (t : Tr) (C : Ck) : List Expr → Option Gs
  | [] => some .nil
  | a :: r => if nst a = true then do let g ← t.G C a; let gs ← t.L C r; some (.cons g gs) else none
def tr : Nat → Tr
  | 0 => ⟨fun _ _ => none, fun _ _ => none, fun _ _ _ => none, fun _ _ _ => none, fun _ _ => none, fun _ _ _ => none, fun _ _ => none, fun _ _ => none, fun _ _ => none⟩
  | n + 1 => ⟨stepE (tr n), stepT (tr n), stepW (tr n), stepV (tr n), stepA (tr n), stepI (tr n), stepO (tr n), stepG (tr n), stepL (tr n)⟩
theorem bnd2 {α β : Type} {o : Option α} {f : α → Option β} {b : β} (h : (o >>= f) = some b) : ∃ a, o = some a ∧ f a = some b := Option.bind_eq_some_iff.mp h
section
variable {t : Tr} {C : Ck} {X : Cx} {ex : Nat → Addr} {k : Nat} {Wx : WX}
theorem all_mem {g : G} {own : List Nat} (h : ((gIx g).all fun i => decide (i ∈ own)) = true) : ∀ i ∈ gIx g, i ∈ own := fun i hi => of_decide_eq_true (List.all_eq_true.mp h i hi)
theorem ifs_ok (T : t.Ok) (G : Good C X ex k Wx) {fs : List Expr} {m : Env' → M Bool} (h : ifs t C fs = some m) : PTs X fs (rdT (kxOf X ex) m Wx) := by
  unfold ifs at h
  split at h
  · cases h; exact r_ts0
  · exact r_ts1 (T.T G h)
  · cases h
theorem stepA_ok (T : t.Ok) (G : Good C X ex k Wx) {es : List Expr} {m : Env' → M (List D)} (h : stepA t C es = some m) : PA X es (rdA (kxOf X ex) m Wx) := by
  unfold stepA at h
  split at h
  · cases h; exact r_nil
  · rename_i a r
    split at h
    · rename_i hn
      obtain ⟨ma, h1, h⟩ := bnd2 h
      obtain ⟨ms, h2, h⟩ := bnd2 h
      cases h
      exact r_cons (T.E G h1) (T.A G h2) (star1 hn)
    · cases h
theorem stepW_ok (T : t.Ok) (G : Good C X ex k Wx) {op : BoolOp} {es : List Expr} {m : Env' → M Bool} (h : stepW t C op es = some m) (pos : Pos) : PW X (.BoolOp op es pos) (rdT (kxOf X ex) m Wx) := by
  match op, es, h with
  | .And, [a], h => exact pw_and1 (T.T G h)
  | .Or, [a], h => exact pw_or1 (T.T G h)
  | .And, a :: b :: r, h =>
    obtain ⟨ta, h1, h⟩ := bnd2 h
    obtain ⟨tb, h2, h⟩ := bnd2 h
    cases h
    exact r_and (T.T G h1) (T.W G h2 pos)
  | .Or, a :: b :: r, h =>
    obtain ⟨ta, h1, h⟩ := bnd2 h
    obtain ⟨tb, h2, h⟩ := bnd2 h
    cases h
    exact r_or (T.T G h1) (T.W G h2 pos)
  | .And, [], h => cases h
  | .Or, [], h => cases h
theorem stepV_ok (T : t.Ok) (G : Good C X ex k Wx) {op : BoolOp} {es : List Expr} {m : Env' → M D} (h : stepV t C op es = some m) (pos : Pos) : PE X (.BoolOp op es pos) (rdE (kxOf X ex) m Wx) := by
  match op, es, h with
  | .And, [a], h => exact pe_one (T.E G h)
  | .Or, [a], h => exact pe_one (T.E G h)
  | .And, a :: b :: r, h =>
    obtain ⟨ta, h1, h⟩ := bnd2 h
    obtain ⟨tb, h2, h⟩ := bnd2 h
    cases h
    exact r_eand (T.E G h1) (T.V G h2 pos)
  | .Or, a :: b :: r, h =>
    obtain ⟨ta, h1, h⟩ := bnd2 h
    obtain ⟨tb, h2, h⟩ := bnd2 h
    cases h
    exact r_eor (T.E G h1) (T.V G h2 pos)
  | .And, [], h => cases h
  | .Or, [], h => cases h
theorem stepO_ok (T : t.Ok) (G : Good C X ex k Wx) {e : Option Expr} {m : Env' → M (Option Int)} (h : stepO t C e = some m) : PO X e (rdO (kxOf X ex) m Wx) := by
  cases e with
  | none => cases h; exact r_onone
  | some a =>
    obtain ⟨ma, h1, h⟩ := bnd2 h
    cases h
    exact r_osome (T.E G h1)
theorem stepG_ok (T : t.Ok) (G : Good C X ex k Wx) {e : Expr} {g : Fw.G} (h : stepG t C e = some g) : PG X e (rdG (kxOf X ex) g) := by
  unfold stepG at h
  split at h
  · rename_i x p
    split at h
    · rename_i ha
      cases q : ixOf C.N x with
      | none => rw [q] at h; cases h
      | some i =>
        rw [q] at h
        cases h
        obtain ⟨h1, h2⟩ := asgB_ok G ha
        exact r_gname (pg_name (by rw [G.N]; exact G.nd) (by rw [G.N]; exact ixOf_ok q) h1 h2)
    · cases h
  · rename_i es n p
    cases q : t.L C es with
    | none => rw [q] at h; cases h
    | some gs =>
      rw [q] at h
      cases h
      obtain ⟨h1, h2⟩ := T.L G q
      exact r_gtup G.calm h1 (h2 _).1 (h2 _).2
  · cases h
theorem stepL_ok (T : t.Ok) (G : Good C X ex k Wx) {es : List Expr} {g : Gs} (h : stepL t C es = some g) : PGs X es (rdGs (kxOf X ex) g) ∧ (∀ env, (assignEach es env).length = g.len ∧ (assignEach es env).findIdx? (·.1) = none) := by
  unfold stepL at h
  split at h
  · cases h; exact ⟨r_gnil, fun env => ⟨rfl, rfl⟩⟩
  · rename_i a r
    split at h
    · rename_i hn
      obtain ⟨g1, h1, h⟩ := bnd2 h
      obtain ⟨gs, h2, h⟩ := bnd2 h
      cases h
      obtain ⟨q1, q2⟩ := T.L G h2
      refine ⟨r_gcons (T.G G h1) q1 (by rw [asg1 hn]; rfl), fun env => ⟨?_, ?_⟩⟩
      · rw [asg1 hn]
        show (assignEach r env).length + 1 = gs.len + 1
        rw [(q2 env).1]
      · rw [asg1 hn, List.findIdx?_cons, (q2 env).2]
        rfl
    · cases h
theorem stepI_ok (T : t.Ok) (G : Good C X ex k Wx) {tg e : Expr} {m : Env' → M Src} (h : stepI t C tg e = some m) : PI X tg e (rdI (kxOf X ex) m Wx) := by
  have seq : ∀ {e : Expr} {m : Env' → M Src}, (do let m ← t.E C e; some (iSeq m)) = some m → PI X tg e (rdI (kxOf X ex) m Wx) := fun {e m} h => by
    obtain ⟨ma, h1, h⟩ := bnd2 h
    cases h
    exact r_iseq (T.E G h1)
  unfold stepI at h
  split at h
  · rename_i x p a b c pos
    split at h
    · rename_i hx
      obtain ⟨rfl, hx, na, nb, nc⟩ := hx
      obtain ⟨g1, g2, _, _⟩ := frB_ok G hx
      obtain ⟨ms, h1, h⟩ := bnd2 h
      cases h
      exact r_rng3 g1 g2 (T.A G h1) (star1 na) (stars (by rw [List.all_cons, List.all_cons, nb, nc]; rfl))
    · exact seq h
  · rename_i x p a pos
    split at h
    · rename_i hx
      obtain ⟨rfl, hx⟩ := hx
      obtain ⟨g1, g2, _, _⟩ := frB_ok G hx
      split at h
      · rename_i hn
        obtain ⟨ms, h1, h⟩ := bnd2 h
        cases h
        exact r_rng1 g1 g2 (T.A G h1) (by rw [star1 hn]; rfl)
      · cases h
    · split at h
      · rename_i hx
        obtain ⟨rfl, hx⟩ := hx
        obtain ⟨g1, g2, _, _⟩ := frB_ok G hx
        split at h
        · split at h
          · rename_i hn
            obtain ⟨ms, h1, h⟩ := bnd2 h
            cases h
            exact r_enum g1 g2 (T.A G h1) (by rw [star1 hn]; rfl)
          · cases h
        · cases h
      · exact seq h
  · rename_i x p a b pos
    split at h
    · rename_i hx
      obtain ⟨rfl, hx⟩ := hx
      obtain ⟨g1, g2, _, _⟩ := frB_ok G hx
      split at h
      · rename_i hn
        obtain ⟨ms, h1, h⟩ := bnd2 h
        cases h
        exact r_rng2 g1 g2 (T.A G h1) (by rw [star1 hn.1, star1 hn.2]; rfl) (by rw [star1 hn.2]; rfl)
      · cases h
    · split at h
      · rename_i hx
        obtain ⟨rfl, hx⟩ := hx
        obtain ⟨g1, g2, _, _⟩ := frB_ok G hx
        split at h
        · split at h
          · rename_i hn
            obtain ⟨ms, h1, h⟩ := bnd2 h
            cases h
            exact r_zip g1 g2 (T.A G h1) (star1 hn.1) (stars (by rw [List.all_cons, hn.2]; rfl))
          · cases h
        · cases h
      · exact seq h
  · exact seq h
theorem cmpC_ok (G : Good C X ex k Wx) {op : CmpOp} {a b : Expr} {ma mb : Env' → M D} {g : Fn2} (h : cmpC C op b = some g) (ha : PE X a (rdE (kxOf X ex) ma Wx)) (hb : PE X b (rdE (kxOf X ex) mb Wx)) (hn : nSet b = true) (pos : Pos) : PE X (.Compare a [op] [b] pos) (rdE (kxOf X ex) (m2 ma mb g) Wx) := by
  unfold cmpC at h
  split at h
  · cases op <;> cases h
    · exact r_din G.room.units ha hb (mark_no hn)
    · exact r_dnin G.room.units ha hb (mark_no hn)
  · exact r_cmp (cmpG_ok G.room.units h) ha hb (mark_no hn)
theorem cmpT_ok (G : Good C X ex k Wx) {op : CmpOp} {a b : Expr} {ma mb : Env' → M D} {g : Fn2} (h : cmpC C op b = some g) (ha : PE X a (rdE (kxOf X ex) ma Wx)) (hb : PE X b (rdE (kxOf X ex) mb Wx)) (hn : nSet b = true) (pos : Pos) : PT X (.Compare a [op] [b] pos) (rdT (kxOf X ex) (tB (m2 ma mb g)) Wx) := by
  unfold cmpC at h
  split at h
  · cases op <;> cases h
    · exact r_tdin G.room.units ha hb (mark_no hn)
    · exact r_tdnin G.room.units ha hb (mark_no hn)
  · exact r_tcmp (cmpG_ok G.room.units h) ha hb (mark_no hn)
theorem stepT_ok (T : t.Ok) (G : Good C X ex k Wx) {e : Expr} {m : Env' → M Bool} (h : stepT t C e = some m) : PT X e (rdT (kxOf X ex) m Wx) := by
  unfold stepT at h
  split at h
  · obtain ⟨ta, h1, h⟩ := bnd2 h
    cases h
    exact r_not (T.T G h1)
  · exact (T.W G h _).pt
  · split at h
    · rename_i hn
      obtain ⟨ma, h1, h⟩ := bnd2 h
      obtain ⟨mb, h2, h⟩ := bnd2 h
      obtain ⟨g, h3, h⟩ := bnd2 h
      cases h
      exact cmpT_ok G h3 (T.E G h1) (T.E G h2) hn _
    · cases h
  · split at h
    · rename_i hv
      obtain ⟨ma, h1, h⟩ := bnd2 h
      cases h
      exact r_tv (T.E G h1) (tv_ok hv)
    · cases h
theorem call_ok (T : t.Ok) (G : Good C X ex k Wx) {x : Str} {a : Expr} {es : List Expr} {pos p : Pos} {q : Nat × (List D → M D)} {ms : Env' → M (List D)} (hn : nStar (a :: es) = true) (hq : C.funs.lookup x = some q) (hg : glB C x = true) (ha : t.A C (a :: es) = some ms) :
    PE X (.Call (.Name x p) (a :: es) [] pos) (rdE (kxOf X ex) (mCall ms (sized q.1 q.2)) Wx) := by
  obtain ⟨ps, h1, F⟩ := G.funs x q hq
  obtain ⟨g1, g2, g3⟩ := glB_ok G hg
  unfold nStar at hn
  rw [List.all_cons, Bool.and_eq_true] at hn
  rw [← h1]
  exact r_call F G.tk G.room g1 (T.A G ha) g2 (star1 hn.1) (stars hn.2)
theorem few1 {a : Expr} {env : Env} {cpos : Pos} (h : nst a = true) : ((backTo cpos (starEach [a] env)).all (fun x => !x.1) && (backToKw cpos (keywordEach [] env)).all (fun x => x.1.isSome)
      && decide (([a] : List Expr).length + ([] : List Keyword).length + (if ([] : List Keyword).isEmpty then 0 else 1) < 30)) = true := by
  rw [star1 h]
  rfl
theorem mth1_ok (G : Good C X ex k Wx) (T : t.Ok) {name : Str} {g : D → List D → Sto → Option (D × Sto)} (h : mth1 name = some g) {o a : Expr} {mo : Env' → M D} {ms : Env' → M (List D)} {apos cpos : Pos} (ho : PE X o (rdE (kxOf X ex) mo Wx)) (ha : PA X [a] (rdA (kxOf X ex) ms Wx)) (hb : nCl o = true) (hn : nst a = true) (hl : (apos.endLine == cpos.line) = true) :
    PE X (.Call (.Attribute o name apos) [a] [] cpos) (rdE (kxOf X ex) (mMth mo ms g) Wx) := by
  unfold mth1 at h
  by_cases q : name = "pop"
  · rw [if_pos q] at h
    cases h
    subst q
    exact r_mth PySem.F.plainAttrs_list PySem.F.slot_list_pop PySem.F.type_list_pop m_popAt ho ha (base_no hb) (few1 hn) hl (star1 hn) rfl
  · rw [if_neg q] at h
    by_cases q2 : name = "append"
    · rw [if_pos q2] at h
      cases h
      subst q2
      exact r_mth PySem.F.plainAttrs_list PySem.F.slot_list_append PySem.F.type_list_append m_append ho ha (base_no hb) (few1 hn) hl (star1 hn) rfl
    · rw [if_neg q2] at h
      by_cases q3 : name = "extend"
      · rw [if_pos q3] at h
        cases h
        subst q3
        exact r_mth PySem.F.plainAttrs_list PySem.F.slot_list_extend PySem.F.type_list_extend m_extend ho ha (base_no hb) (few1 hn) hl (star1 hn) rfl
      · rw [if_neg q3] at h
        by_cases q4 : name = "remove"
        · rw [if_pos q4] at h
          cases h
          subst q4
          exact r_mth PySem.F.plainAttrs_list PySem.F.slot_list_remove PySem.F.type_list_remove m_remove ho ha (base_no hb) (few1 hn) hl (star1 hn) rfl
        · rw [if_neg q4] at h
          cases h
theorem bu1s_ok (G : Good C X ex k Wx) {x : Str} {g : FnL} (h : bu1s x = some g) {ms : Env' → M (List D)} {e : Expr} {es : List Expr} {pos p : Pos} (ha : PA X (e :: es) (rdA (kxOf X ex) ms Wx)) (hx : frB C x = true) (hn : (e :: es).all nst = true) :
    PE X (.Call (.Name x p) (e :: es) [] pos) (rdE (kxOf X ex) (mL ms g) Wx) := by
  unfold bu1s at h
  by_cases q : x = "sorted"
  · rw [if_pos q] at h
    cases h
    subst q
    obtain ⟨g1, g2, g3, g4⟩ := frB_ok G hx
    rw [List.all_cons, Bool.and_eq_true] at hn
    exact r_callB (c_sortG G.calm G.room.units) g1 g2 PyProof.Rows.boot_sorted ha g4 g3 (star1 hn.1) (stars hn.2)
  · rw [if_neg q] at h
    exact bu1_ok G h ha hx hn
theorem bu1m_ok (G : Good C X ex k Wx) {x : Str} {g : FnL} {pos : Pos} (h : bu1m C pos x = some g) {ms : Env' → M (List D)} {e : Expr} {es : List Expr} {p : Pos} (ha : PA X (e :: es) (rdA (kxOf X ex) ms Wx)) (hx : frB C x = true) (hn : (e :: es).all nst = true) :
    PE X (.Call (.Name x p) (e :: es) [] pos) (rdE (kxOf X ex) (mL ms g) Wx) := by
  unfold bu1m at h
  split at h
  · rename_i q
    obtain ⟨rfl, _⟩ := q
    cases h
    obtain ⟨g1, g2, g3, g4⟩ := frB_ok G hx
    rw [List.all_cons, Bool.and_eq_true] at hn
    exact r_callTy c_listM g1 g2 PyProof.Rows.boot_list ha g4 g3 (star1 hn.1) (stars hn.2)
  · exact bu1s_ok G h ha hx hn
theorem rgA_ok (T : t.Ok) (G : Good C X ex k Wx) {x : Str} {es args : List Expr} {ms : Env' → M (List D)} {mu : Bool} {p pos : Pos} (h : rgA C x es = some args) (ha : t.A C args = some ms) : PE X (.Call (.Name x p) es [] pos) (rdE (kxOf X ex) (mL ms (rgF x mu args.length)) Wx) := by
  unfold rgA at h
  split at h
  · split at h
    · rename_i hh
      obtain ⟨hx, rfl, h1, h2, h3⟩ := hh
      cases h
      obtain ⟨g1, g2, g3, g4⟩ := frB_ok G h1
      obtain ⟨k1, k2, k3, k4⟩ := frB_ok G h2
      exact r_rgCall G.calm hx g1 g2 (rgRd1 k1 k2 (T.A G ha) (star1 h3)) rfl
    · cases h
  · split at h
    · rename_i hh
      obtain ⟨hx, rfl, h1, h2, h3, h4⟩ := hh
      cases h
      obtain ⟨g1, g2, g3, g4⟩ := frB_ok G h1
      obtain ⟨k1, k2, k3, k4⟩ := frB_ok G h2
      exact r_rgCall G.calm hx g1 g2 (rgRd2 k1 k2 (T.A G ha) (star1 h3) (stars (by rw [List.all_cons, h4]; rfl))) rfl
    · cases h
  · cases h
theorem stepE_ok (T : t.Ok) (G : Good C X ex k Wx) {e : Expr} {m : Env' → M D} (h : stepE t C e = some m) : PE X e (rdE (kxOf X ex) m Wx) := by
  unfold stepE at h
  split at h
  · cases h; exact r_con pe_int fun W => .int _
  · cases h; exact r_con pe_bl fun W => .bl _
  · cases h; exact r_con pe_str fun W => .str _
  · cases h; exact r_con pe_non fun W => .non
  · rename_i x p
    split at h
    · rename_i hv
      obtain ⟨g1, g2, g3⟩ := visB_ok G hv
      cases q : ixOf C.N x with
      | none => rw [q] at h; cases h
      | some i =>
        rw [q] at h
        cases h
        exact r_var (pe_var (by rw [G.N]; exact ixOf_ok q) g1 g2 g3)
    · split at h
      · rename_i hg
        obtain ⟨g1, g2, g3⟩ := glB_ok G hg
        cases q : C.glo.lookup x with
        | none => rw [q] at h; cases h
        | some d =>
          rw [q] at h
          cases h
          obtain ⟨u, v, e1, e2, e3⟩ := G.glo x d q
          exact r_con (pe_glob g1 e1 e2 g2) e3
      · cases h
  · obtain ⟨ma, h1, h⟩ := bnd2 h
    obtain ⟨mb, h2, h⟩ := bnd2 h
    obtain ⟨g, h3, h⟩ := bnd2 h
    cases h
    exact r_bin (binG_ok h3) (T.E G h1) (T.E G h2)
  · obtain ⟨ma, h1, h⟩ := bnd2 h
    cases h
    exact r_un o_neg (T.E G h1)
  · obtain ⟨ma, h1, h⟩ := bnd2 h
    cases h
    exact r_enot (T.E G h1)
  · split at h
    · rename_i hn
      obtain ⟨ma, h1, h⟩ := bnd2 h
      obtain ⟨mb, h2, h⟩ := bnd2 h
      obtain ⟨g, h3, h⟩ := bnd2 h
      cases h
      exact cmpC_ok G h3 (T.E G h1) (T.E G h2) hn _
    · cases h
  · exact T.V G h _
  · obtain ⟨tc, h1, h⟩ := bnd2 h
    obtain ⟨ma, h2, h⟩ := bnd2 h
    obtain ⟨mb, h3, h⟩ := bnd2 h
    cases h
    exact r_if (T.T G h1) (T.E G h2) (T.E G h3)
  · obtain ⟨ms, h1, h⟩ := bnd2 h
    cases h
    exact r_tup (T.A G h1)
  · obtain ⟨ms, h1, h⟩ := bnd2 h
    cases h
    split
    · exact r_mut (T.A G h1)
    · exact r_lst (T.A G h1)
  · cases h; exact r_newD
  · obtain ⟨ma, h1, h⟩ := bnd2 h
    cases h
    exact r_revL (T.E G h1)
  · obtain ⟨ma, h1, h⟩ := bnd2 h
    obtain ⟨ml, h2, h⟩ := bnd2 h
    obtain ⟨mh, h3, h⟩ := bnd2 h
    cases h
    exact r_slice (T.E G h1) (T.O G h2) (T.O G h3)
  · split at h
    · rename_i hn
      obtain ⟨ma, h1, h⟩ := bnd2 h
      obtain ⟨mb, h2, h⟩ := bnd2 h
      cases h
      split
      · exact r_dget G.room.units (T.E G h1) (T.E G h2) (plain_ix hn)
      · exact r_ix o_ix (T.E G h1) (T.E G h2) (plain_ix hn)
    · cases h
  · rename_i x p a y p2 pos
    split at h
    · rename_i hx
      subst hx
      split at h
      · rename_i hh
        obtain ⟨h1, h2, h3⟩ := hh
        obtain ⟨c, q1, h⟩ := bnd2 h
        obtain ⟨ma, q2, h⟩ := bnd2 h
        cases h
        obtain ⟨a1, a2, _, _⟩ := frB_ok G h1
        obtain ⟨b1, b2, b3, b4⟩ := frB_ok G h2
        exact r_isi a1 a2 b1 b2 (clOf_ok q1) b4 b3 (T.E G q2) (star1 h3)
      · cases h
    · split at h
      · rename_i hn
        split at h
        · rename_i q hq
          split at h
          · rename_i hg
            obtain ⟨ms, q2, h⟩ := bnd2 h
            cases h
            exact call_ok T G hn hq hg q2
          · cases h
        · split at h
          · rename_i hf
            obtain ⟨g, q1, h⟩ := bnd2 h
            obtain ⟨ms, q2, h⟩ := bnd2 h
            cases h
            exact bu2_ok G q1 (T.A G q2) hf hn
          · cases h
      · cases h
  · rename_i x p a es pos _
    split at h
    · rename_i hn
      split at h
      · rename_i q hq
        split at h
        · rename_i hg
          obtain ⟨ms, q2, h⟩ := bnd2 h
          cases h
          exact call_ok T G hn hq hg q2
        · cases h
      · split at h
        · rename_i args hr
          obtain ⟨ms, q2, h⟩ := bnd2 h
          cases h
          exact rgA_ok T G hr q2
        · split at h
          · rename_i hf
            obtain ⟨g, q1, h⟩ := bnd2 h
            obtain ⟨ms, q2, h⟩ := bnd2 h
            cases h
            split at q1
            · exact bu1m_ok G q1 (T.A G q2) hf hn
            · exact bu2_ok G q1 (T.A G q2) hf hn
          · cases h
    · cases h
  · rename_i x p a nm b k1 p2 kp pos
    split at h
    · rename_i hh
      obtain ⟨rfl, rfl, hf, hn⟩ := hh
      obtain ⟨ms, q2, h⟩ := bnd2 h
      cases h
      obtain ⟨g1, g2, g3, g4⟩ := frB_ok G hf
      exact r_callKw (c_sortedK G.calm G.room.units (some b)) g1 g2 PyProof.Rows.boot_sorted (T.A G q2) g4 g3 (star1 hn)
    · cases h
  · rename_i o name apos a cpos
    split at h
    · rename_i hh
      obtain ⟨h1, h2, h3⟩ := hh
      obtain ⟨mo, q1, h⟩ := bnd2 h
      obtain ⟨ms, q2, h⟩ := bnd2 h
      obtain ⟨g, q3, h⟩ := bnd2 h
      cases h
      exact mth1_ok G T q3 (T.E G q1) (T.A G q2) h1 h2 h3
    · cases h
  · rename_i elt tg x p fs scope pos
    split at h
    · rename_i hh
      obtain ⟨h1, h2⟩ := hh
      obtain ⟨i, q1, h⟩ := bnd2 h
      obtain ⟨g, q2, h⟩ := bnd2 h
      obtain ⟨tc, q3, h⟩ := bnd2 h
      obtain ⟨m, q4, h⟩ := bnd2 h
      split at h
      · rename_i hg
        cases h
        obtain ⟨g1, g2, g3⟩ := visB_ok G h1
        exact r_compV G.calm (by rw [G.N]; exact G.nd) (pe_var (by rw [G.N]; exact ixOf_ok q1) g1 g2 g3) (by rw [G.N, G.sc]; exact blkOk_by h2) (all_mem hg)
          (fun s H A cl fp => T.G (G.inner scope s H A cl fp) q2) (fun s H A cl fp => ifs_ok T (G.inner scope s H A cl fp) q3) (fun s H A cl fp => T.E (G.inner scope s H A cl fp) q4)
      · cases h
    · cases h
  · rename_i elt tg iter fs scope pos _
    split at h
    · rename_i hh
      obtain ⟨h1, h2⟩ := hh
      obtain ⟨mi, q1, h⟩ := bnd2 h
      obtain ⟨g, q2, h⟩ := bnd2 h
      obtain ⟨tc, q3, h⟩ := bnd2 h
      obtain ⟨m, q4, h⟩ := bnd2 h
      split at h
      · rename_i hg
        cases h
        exact r_comp G.calm (by rw [G.N]; exact G.nd) (T.I G q1) (by rw [G.N, G.sc]; exact blkOk_by h2) (all_mem hg)
          (fun s H A cl fp => T.G (G.inner scope s H A cl fp) q2) (fun s H A cl fp => ifs_ok T (G.inner scope s H A cl fp) q3) (fun s H A cl fp => T.E (G.inner scope s H A cl fp) q4) (fold_no h1)
      · cases h
    · cases h
  · rename_i elt tg iter fs tg1 iter1 fs1 scope pos
    split at h
    · rename_i hh
      obtain ⟨h1, h1', h2⟩ := hh
      obtain ⟨mi, q1, h⟩ := bnd2 h
      obtain ⟨g, q2, h⟩ := bnd2 h
      obtain ⟨tc, q3, h⟩ := bnd2 h
      obtain ⟨mi1, q5, h⟩ := bnd2 h
      obtain ⟨g1, q6, h⟩ := bnd2 h
      obtain ⟨tc1, q7, h⟩ := bnd2 h
      obtain ⟨m, q4, h⟩ := bnd2 h
      split at h
      · rename_i hg
        cases h
        exact r_comp2 G.calm (by rw [G.N]; exact G.nd) (T.I G q1) (by rw [G.N, G.sc]; exact blkOk_by h2) (all_mem hg.2) (all_mem hg.1) (fun i hi => hi)
          (fun s H A cl fp => T.G (G.inner scope s H A cl fp) q2) (fun s H A cl fp => ifs_ok T (G.inner scope s H A cl fp) q3)
          (fun s H A cl fp => T.I (G.inner scope s H A cl fp) q5) (fun s H A cl fp => T.G (G.inner scope s H A cl fp) q6) (fun s H A cl fp => ifs_ok T (G.inner scope s H A cl fp) q7)
          (fun s H A cl fp => T.E (G.inner scope s H A cl fp) q4) (fold_no h1) (fun env => fold_no h1')
      · cases h
    · cases h
  · cases h
theorem tr_ok : ∀ n : Nat, (tr n).Ok
  | 0 => ⟨fun _ h => (nomatch h), fun _ h => (nomatch h), fun _ h => (nomatch h), fun _ h => (nomatch h), fun _ h => (nomatch h), fun _ h => (nomatch h), fun _ h => (nomatch h), fun _ h => (nomatch h), fun _ h => (nomatch h)⟩
  | n + 1 => ⟨fun G h => stepE_ok (tr_ok n) G h, fun G h => stepT_ok (tr_ok n) G h, fun G h => stepW_ok (tr_ok n) G h, fun G h => stepV_ok (tr_ok n) G h, fun G h => stepA_ok (tr_ok n) G h, fun G h => stepI_ok (tr_ok n) G h, fun G h => stepO_ok (tr_ok n) G h, fun G h => stepG_ok (tr_ok n) G h, fun G h => stepL_ok (tr_ok n) G h⟩
end
end Fw
set_option Elab.async false
set_option linter.all false
set_option maxRecDepth 100000
set_option maxHeartbeats 4000000
namespace Fw
open PySem PySem.Spec PyProof.Rows L2
structure GoodS (C : Ck) (X : Cx) (ex : Nat → Addr) (k : Nat) (Wx : WX) : Prop extends Good C X ex k Wx where
  po : PassesOwn (model X.prog X.w) X.A X.env X.xe
  stk : X.stack = X.env :: X.outer
  frm : X.env.frame = some X.env.locals
def swB (C : Ck) (ts : List Expr) (e : Expr) : Bool := match e with
  | .Tuple _ _ _ => !(ts.length == 2 || ts.length == 3) || (match ts with
    | [.Name x _, .Name y _] => !(decide (kd C x = some .local) && decide (kd C y = some .local))
    | _ => false)
  | _ => true
theorem sw_tup {C : Ck} {ts : List Expr} {e : Expr} {env : Env} {q : Nat} {p : Pos} (hs : env.scope = C.sc) (h : swB C ts e = true) : swappedStores [.Tuple ts q p] e env = pure none := by
  unfold swB at h
  split at h
  · rename_i vs n p2
    rw [Bool.or_eq_true] at h
    unfold swappedStores
    simp only
    rcases h with h | h
    · rw [if_pos (by rw [h]; simp)]
    · split at h
      · rename_i x px y py
        split
        · rfl
        · split
          · rfl
          · rw [if_pos ?_]
            have kx : env.kindOf x = kd C x := by show env.scope.names.lookup x = _; rw [hs]; rfl
            have ky : env.kindOf y = kd C y := by show env.scope.names.lookup y = _; rw [hs]; rfl
            rw [Bool.or_eq_true]
            left
            simp only [List.filterMap_cons, List.filterMap_nil, kx, ky]
            by_cases a : kd C x = some .local
            · by_cases b : kd C y = some .local
              · rw [decide_eq_true a, decide_eq_true b] at h
                cases h
              · have b' : (kd C y == some .local) = false := by simpa using b
                simp only [b', Bool.false_and, Bool.false_eq_true, if_false]
                split <;> simp
            · have a' : (kd C x == some .local) = false := by simpa using a
              simp only [a', Bool.false_and, Bool.false_eq_true, if_false]
              split <;> simp
      · cases h
  · rename_i hne
    cases e <;> first | rfl | exact absurd rfl (hne _ _ _)
theorem swS_tup {e : Expr} {ts : List Expr} {q : Nat} {p : Pos} {n : Nat} {env : Env} : swapsWithSole [.Tuple ts q p] e n env = pure false := by
  cases e <;> rfl
theorem swS_sub {e o i : Expr} {p : Pos} {n : Nat} {env : Env} : swapsWithSole [.Subscript o i p] e n env = pure false := by
  cases e <;> rfl
theorem asg_sub {o i : Expr} {pos : Pos} {env : Env} (h : nSl i = true) : ∀ v, assign (.Subscript o i pos) env v = (do
      let ov ← holding [v] (eval o env)
      let iv ← holding [v, ov] (eval i env)
      standAt pos
      holding [v, ov, iv] (setItem ov iv v)
      release [v, ov, iv] []) := by
  intro v
  cases i <;> first | rfl | cases h
def fnKB (C : Ck) : Bool := match C.sc.kind with
  | .function => true
  | _ => false
theorem fnKB_ok {C : Ck} (h : fnKB C = true) : C.sc.kind = .function := by
  unfold fnKB at h
  split at h
  · assumption
  · cases h
def swT (C : Ck) (y : Str) (py : Pos) (scope : Scope) (pos : Pos) : Bool := fnKB C && (decide (kd C y = some .local) && ((py.line == pos.line) && !(scope.names.any fun (n, k) => n == y && (k == .local || k == .cell))))
theorem swT_ok {C : Ck} {y : Str} {py pos : Pos} {scope : Scope} {env : Env} {elt : Expr} {gs : List Comprehension} {l : Nat} (hs : env.scope = C.sc) (h : swT C y py scope pos = true) : swapsWith (.ListComp elt gs scope pos) (some (.Name y py)) l env = pure true ∧ env.scope.names.lookup y = some .local := by
  unfold swT at h
  rw [Bool.and_eq_true, Bool.and_eq_true, Bool.and_eq_true, Bool.not_eq_true'] at h
  obtain ⟨h1, h2, h3, h4⟩ := h
  have hy : env.scope.names.lookup y = some .local := by rw [hs]; exact of_decide_eq_true h2
  exact ⟨L2.sw_true (by rw [hs]; exact fnKB_ok h1) hy h3 h4, hy⟩
theorem sw_nloc {C : Ck} {y : Str} {py : Pos} {e : Expr} {env : Env} {l : Nat} (hs : env.scope = C.sc) (h : kd C y ≠ some .local) : swapsWith e (some (.Name y py)) l env = pure false := by
  have ky : (env.kindOf y == some .local) = false := by
    have : env.kindOf y = kd C y := by show env.scope.names.lookup y = _; rw [hs]; rfl
    rw [this]
    simpa using h
  cases e <;> first | rfl | (unfold swapsWith; simp only [ky, Bool.and_false, Bool.false_and]; done) | (unfold swapsWith; simp only [ky, Bool.and_false, Bool.false_and]; rfl)
def parB (C : Ck) (x : Str) (px : Pos) (y : Str) (py : Pos) (a b : Expr) : Bool := fnKB C && (decide (x ≠ y) && (decide (kd C x = some .local) && (decide (kd C y = some .local) && (nst a && (nst b && ((py.line == px.line) && (!([a, b].all (foldedForSure 8)) && !([a, b].all (constantsAlone 8)))))))))
theorem parB_ok {C : Ck} {x y : Str} {px py kt2 p2 : Pos} {k1 k2 : Nat} {a b : Expr} {env : Env} (hs : env.scope = C.sc) (h : parB C x px y py a b = true) : x ≠ y ∧ env.scope.names.lookup x = some .local ∧ env.scope.names.lookup y = some .local ∧
    swappedStores [.Tuple [.Name x px, .Name y py] k1 kt2] (.Tuple [a, b] k2 p2) env = pure (some [x, y]) := by
  unfold parB at h
  simp only [Bool.and_eq_true, Bool.not_eq_true', decide_eq_true_eq] at h
  obtain ⟨h0, h1, h2, h3, h4, h5, h6, h7, h8⟩ := h
  have kx : env.kindOf x = some .local := by show env.scope.names.lookup x = _; rw [hs]; exact h2
  have ky : env.kindOf y = some .local := by show env.scope.names.lookup y = _; rw [hs]; exact h3
  have hb : env.blockKind = .function := by unfold Env.blockKind; rw [hs, fnKB_ok h0]; rfl
  refine ⟨h1, kx, ky, ?_⟩
  have h6' : py.line = px.line := eq_of_beq h6
  have hyx : (y == x) = false := by simpa using Ne.symm h1
  have hxy : (x == y) = false := by simpa using h1
  unfold swappedStores
  simp only [List.all_cons, List.all_nil, Bool.and_true] at h7 h8
  simp [hb, kx, ky, h6', hxy, hyx, h7, h8, List.eraseDups_cons, Expr.pos, List.filterMap_cons]
  rintro (h | h)
  · split at h
    · cases h4
    · cases h
  · split at h
    · cases h5
    · cases h
def parB3 (C : Ck) (x : Str) (px : Pos) (y : Str) (py : Pos) (z : Str) (pz : Pos) (a b c : Expr) : Bool := fnKB C && (decide (x ≠ y) && (decide (x ≠ z) && (decide (y ≠ z) && (decide (kd C x = some .local) && (decide (kd C y = some .local) && (decide (kd C z = some .local) && (nst a && (nst b && (nst c && ((py.line == px.line) && ((pz.line == px.line) && (!([a, b, c].all (foldedForSure 8)) && !([a, b, c].all (constantsAlone 8))))))))))))))
theorem parB3_ok {C : Ck} {x y z : Str} {px py pz kt2 p2 : Pos} {k1 k2 : Nat} {a b c : Expr} {env : Env} (hs : env.scope = C.sc) (h : parB3 C x px y py z pz a b c = true) : (x ≠ y ∧ x ≠ z ∧ y ≠ z) ∧ env.scope.names.lookup x = some .local ∧ env.scope.names.lookup y = some .local ∧ env.scope.names.lookup z = some .local ∧
    swappedStores [.Tuple [.Name x px, .Name y py, .Name z pz] k1 kt2] (.Tuple [a, b, c] k2 p2) env = pure (some [x, y, z]) := by
  unfold parB3 at h
  simp only [Bool.and_eq_true, Bool.not_eq_true', decide_eq_true_eq] at h
  obtain ⟨h0, h1, g1, g2, h2, h3, g3, h4, h5, g4, h6, g5, h7, h8⟩ := h
  have kx : env.kindOf x = some .local := by show env.scope.names.lookup x = _; rw [hs]; exact h2
  have ky : env.kindOf y = some .local := by show env.scope.names.lookup y = _; rw [hs]; exact h3
  have kz : env.kindOf z = some .local := by show env.scope.names.lookup z = _; rw [hs]; exact g3
  have hb : env.blockKind = .function := by unfold Env.blockKind; rw [hs, fnKB_ok h0]; rfl
  refine ⟨⟨h1, g1, g2⟩, kx, ky, kz, ?_⟩
  have h6' : py.line = px.line := eq_of_beq h6
  have g5' : pz.line = px.line := eq_of_beq g5
  have e1 : (y == x) = false := by simpa using Ne.symm h1
  have e2 : (z == x) = false := by simpa using Ne.symm g1
  have e3 : (z == y) = false := by simpa using Ne.symm g2
  unfold swappedStores
  simp only [List.all_cons, List.all_nil, Bool.and_true] at h7 h8
  simp [hb, kx, ky, kz, h6', g5', e1, e2, e3, h7, h8, List.eraseDups_cons, Expr.pos, List.filterMap_cons]
  rintro (h | h | h)
  · split at h
    · cases h4
    · cases h
  · split at h
    · cases h5
    · cases h
  · split at h
    · cases g4
    · cases h
theorem sw_subs {o i q j : Expr} {p1 p2 pt : Pos} {k : Nat} {e : Expr} {env : Env} : swappedStores [.Tuple [.Subscript o i p1, .Subscript q j p2] k pt] e env = pure none := by
  unfold swappedStores
  cases e with
  | Tuple vs k2 p3 =>
    simp only
    split
    · rfl
    · split
      · rfl
      · rw [if_pos ?_]
        rw [Bool.or_eq_true]
        left
        rfl
  | _ => rfl
def hnd : Stmt → Option MS
  | .Return (some (.Constant (.str z) _ _)) _ => some (sRet (mC (.str z)))
  | .Return (some (.Constant (.bool z) _ _)) _ => some (sRet (mC (.bool z)))
  | .Return (some (.Constant .none _ _)) _ => some (sRet (mC .none))
  | .Return none _ => some sRetN
  | .Pass _ => some sNil
  | .Continue _ => some sCnt
  | _ => none
theorem hnd_ok {X : Cx} {ex : Nat → Addr} {s : Stmt} {m : MS} {Wx : WX} (h : hnd s = some m) : PS X s (rdS (kxOf X ex) m Wx) := by
  unfold hnd at h
  split at h
  · cases h; exact r_sret (r_con pe_str fun W => .str _)
  · cases h; exact r_sret (r_con pe_bl fun W => .bl _)
  · cases h; exact r_sret (r_con pe_non fun W => .non)
  · cases h; exact r_sretn
  · cases h; exact r_spass
  · cases h; exact r_scnt
  · cases h
def stepS (f : Ck → List Stmt → Option MS) (t : Tr) (C : Ck) : Stmt → Option MS
  | .Return (some e) _ => do let m ← t.E C e; some (sRet m)
  | .Return none _ => some sRetN
  | .Pass _ => some sNil
  | .Break _ => some sBrk
  | .Continue _ => some sCnt
  | .Expr e _ => if nCo e = true then do let m ← t.E C e; some (sExp m) else none
  | .If c a b _ => do let tc ← t.T C c; let ma ← f C a; let mb ← f C b; some (sIf tc ma mb)
  | .While c b [] _ => do let tc ← t.T C c; let mb ← f C b; some (sWhile tc mb C.fuel)
  | .For tg it b [] _ => if nSet it = true then do let mi ← t.I C tg it; let g ← t.G C tg; let mb ← f C b; some (sFor mi g mb) else none
  | .Assign [.Name y py] (.ListComp elt [⟨tg, iter, fs, 0⟩] scope pos) _ =>
    if swT C y py scope pos = true ∧ nSet iter = true ∧ blkC C.N C.sc scope (ownOf C.N scope) = true then do
      let i ← ixOf C.N y
      let mi ← t.I C tg iter
      let g ← t.G (C.inner scope) tg
      let tc ← ifs t (C.inner scope) fs
      let m ← t.E (C.inner scope) elt
      if ((gIx g).all fun i => decide (i ∈ (ownOf C.N scope).map (·.2))) = true then some (sAsg (.nm i) (mComp (muB C pos) mi g ((ownOf C.N scope).map (·.2)) tc m)) else none
    else if asgB C y = true ∧ kd C y ≠ some .local then do let i ← ixOf C.N y; let m ← t.E C (.ListComp elt [⟨tg, iter, fs, 0⟩] scope pos); some (sAsg (.nm i) m) else none
  | .Assign [.Name y py] (.ListComp elt [⟨tg, iter, fs, 0⟩, ⟨tg1, iter1, fs1, 0⟩] scope pos) _ =>
    if swT C y py scope pos = true ∧ nSet iter = true ∧ nSet iter1 = true ∧ blkC C.N C.sc scope (ownOf C.N scope) = true then do
      let i ← ixOf C.N y
      let mi ← t.I C tg iter
      let g ← t.G (C.inner scope) tg
      let tc ← ifs t (C.inner scope) fs
      let mi1 ← t.I (C.inner scope) tg1 iter1
      let g1 ← t.G (C.inner scope) tg1
      let tc1 ← ifs t (C.inner scope) fs1
      let m ← t.E (C.inner scope) elt
      if ((gIx g).all fun i => decide (i ∈ (ownOf C.N scope).map (·.2))) = true ∧ ((gIx g1).all fun i => decide (i ∈ (ownOf C.N scope).map (·.2))) = true then some (sAsg (.nm i) (mComp2 (muB C pos) mi g ((ownOf C.N scope).map (·.2)) tc mi1 g1 (gIx g1) tc1 m)) else none
    else if asgB C y = true ∧ kd C y ≠ some .local then do let i ← ixOf C.N y; let m ← t.E C (.ListComp elt [⟨tg, iter, fs, 0⟩, ⟨tg1, iter1, fs1, 0⟩] scope pos); some (sAsg (.nm i) m) else none
  | .Assign [.Name x _] e _ => if asgB C x = true ∧ (nCo e = true ∨ kd C x ≠ some .local) then do let i ← ixOf C.N x; let m ← t.E C e; some (sAsg (.nm i) m) else none
  | .Assign [.Tuple [.Name x px, .Name y py] k1 pt] (.Tuple [a, b] k2 p2) _ =>
    if parB C x px y py a b = true then do let i ← ixOf C.N x; let j ← ixOf C.N y; let ms ← t.A C [a, b]; some (sPar [i, j] ms)
    else if swB C [.Name x px, .Name y py] (.Tuple [a, b] k2 p2) = true then do let g ← t.G C (.Tuple [.Name x px, .Name y py] k1 pt); let m ← t.E C (.Tuple [a, b] k2 p2); some (sAsg g m) else none
  | .Assign [.Tuple [.Name x px, .Name y py, .Name z pz] k1 pt] (.Tuple [a, b, c] k2 p2) _ =>
    if parB3 C x px y py z pz a b c = true then do let i ← ixOf C.N x; let j ← ixOf C.N y; let l ← ixOf C.N z; let ms ← t.A C [a, b, c]; some (sPar [i, j, l] ms) else none
  | .Assign [.Tuple [.Subscript (.Name o po) i p1, .Subscript (.Name q pq) j p2] k1 pt] (.Tuple [a, b] k2 p3) _ =>
    if nSl i = true ∧ nSl j = true then do let ms ← t.A C [a, b]; let mo ← t.E C (.Name o po); let mi ← t.E C i; let mq ← t.E C (.Name q pq); let mj ← t.E C j; some (sSwp ms mo mi mq mj) else none
  | .Assign [.Tuple ts q p] e _ => if swB C ts e = true then do let g ← t.G C (.Tuple ts q p); let m ← t.E C e; some (sAsg g m) else none
  | .Assign [.Subscript (.Name x p) i _] e _ => if nSl i = true then do let mo ← t.E C (.Name x p); let mi ← t.E C i; let me ← t.E C e; some (if x ∈ C.dct then sPutD mo mi me else sSetI mo mi me) else none
  | .AugAssign (.Name x _) op e _ => if asgB C x = true then do let i ← ixOf C.N x; let m ← t.E C e; let g ← iopG op; some (sAug i g m) else none
  | .Raise (some (.Call (.Name x _) [] [] _)) none _ => if glB C x = true then do let c ← C.exs.lookup x; some (sRaise c) else none
  | .Try b [.ExceptHandler (some (.Name x _)) none [h] _] [] [] _ => if glB C x = true then do let d ← C.exs.lookup x; let mb ← f C b; let mh ← hnd h; some (sTry mb (fun c => C.isa c d) (sSeq mh sNil)) else none
  | _ => none
def trS : Nat → Nat → Ck → List Stmt → Option MS
  | _, 0, _, _ => none
  | n, f + 1, C, [] => some sNil
  | n, f + 1, C, s :: r => do let a ← stepS (trS n f) (tr n) C s; let b ← trS n f C r; some (sSeq a b)
section
variable {C : Ck} {X : Cx} {ex : Nat → Addr} {k : Nat} {Wx : WX}
theorem stepS_ok {f : Ck → List Stmt → Option MS} {n : Nat} (hf : ∀ {X : Cx} {Wx : WX} {ss : List Stmt} {m : MS}, GoodS C X ex k Wx → f C ss = some m → PSs X ss (rdS (kxOf X ex) m Wx)) (G : GoodS C X ex k Wx) {s : Stmt} {m : MS} (h : stepS f (tr n) C s = some m) : PS X s (rdS (kxOf X ex) m Wx) := by
  have T := tr_ok n
  have G0 := G.toGood
  unfold stepS at h
  split at h
  · obtain ⟨me, h1, h⟩ := bnd2 h
    cases h
    exact r_sret (T.E G0 h1)
  · cases h; exact r_sretn
  · cases h; exact r_spass
  · cases h; exact r_sbrk
  · cases h; exact r_scnt
  · split at h
    · rename_i hn
      obtain ⟨me, h1, h⟩ := bnd2 h
      cases h
      exact r_sexp (T.E G0 h1) (swap_no hn)
    · cases h
  · obtain ⟨tc, h1, h⟩ := bnd2 h
    obtain ⟨ma, h2, h⟩ := bnd2 h
    obtain ⟨mb, h3, h⟩ := bnd2 h
    cases h
    exact r_sif (T.T G0 h1) (hf G h2) (hf G h3)
  · obtain ⟨tc, h1, h⟩ := bnd2 h
    obtain ⟨mb, h2, h⟩ := bnd2 h
    cases h
    exact r_swhile G.po (T.T G0 h1) (hf G h2)
  · split at h
    · rename_i hn
      obtain ⟨mi, h1, h⟩ := bnd2 h
      obtain ⟨g, h2, h⟩ := bnd2 h
      obtain ⟨mb, h3, h⟩ := bnd2 h
      cases h
      exact r_sfor G.po G0.calm (T.I G0 h1) (T.G G0 h2) (hf G h3) (fold_no hn)
    · cases h
  · rename_i y py elt tg iter fs scope pos spos
    split at h
    · rename_i hh
      obtain ⟨h0, hs, h2⟩ := hh
      obtain ⟨w1, w2⟩ := swT_ok (elt := elt) (gs := [⟨tg, iter, fs, 0⟩]) (l := spos.line) G0.sc h0
      obtain ⟨i, q1, h⟩ := bnd2 h
      obtain ⟨mi, q3, h⟩ := bnd2 h
      obtain ⟨g, q4, h⟩ := bnd2 h
      obtain ⟨tc, q5, h⟩ := bnd2 h
      obtain ⟨m, q6, h⟩ := bnd2 h
      split at h
      · rename_i hg
        cases h
        exact r_setComp G0.calm (by rw [G0.N]; exact G0.nd) (by rw [G0.N]; exact ixOf_ok q1) w2 w1 (T.I G0 q3) (by rw [G0.N, G0.sc]; exact blkOk_by h2) (all_mem hg)
          (fun s H A cl fp => T.G (G0.inner scope s H A cl fp) q4) (fun s H A cl fp => ifs_ok T (G0.inner scope s H A cl fp) q5) (fun s H A cl fp => T.E (G0.inner scope s H A cl fp) q6) (fold_no hs)
      · cases h
    · split at h
      · rename_i hh
        obtain ⟨i, h1, h⟩ := bnd2 h
        obtain ⟨me, h2, h⟩ := bnd2 h
        cases h
        obtain ⟨a1, a2⟩ := asgB_ok G0 hh.1
        exact r_sset (by rw [G0.N]; exact G0.nd) (by rw [G0.N]; exact ixOf_ok h1) a1 (T.E G0 h2) (sw_nloc G0.sc hh.2) a2
      · cases h
  · rename_i y py elt tg iter fs tg1 iter1 fs1 scope pos spos
    split at h
    · rename_i hh
      obtain ⟨h0, hs, hs1, h2⟩ := hh
      obtain ⟨w1, w2⟩ := swT_ok (elt := elt) (gs := [⟨tg, iter, fs, 0⟩, ⟨tg1, iter1, fs1, 0⟩]) (l := spos.line) G0.sc h0
      obtain ⟨i, q1, h⟩ := bnd2 h
      obtain ⟨mi, q3, h⟩ := bnd2 h
      obtain ⟨g, q4, h⟩ := bnd2 h
      obtain ⟨tc, q5, h⟩ := bnd2 h
      obtain ⟨mi1, r5, h⟩ := bnd2 h
      obtain ⟨g1, r6, h⟩ := bnd2 h
      obtain ⟨tc1, r7, h⟩ := bnd2 h
      obtain ⟨m, q6, h⟩ := bnd2 h
      split at h
      · rename_i hg
        cases h
        exact r_setComp2 G0.calm (by rw [G0.N]; exact G0.nd) (by rw [G0.N]; exact ixOf_ok q1) w2 w1 (T.I G0 q3) (by rw [G0.N, G0.sc]; exact blkOk_by h2) (all_mem hg.2) (all_mem hg.1) (fun i hi => hi)
          (fun s H A cl fp => T.G (G0.inner scope s H A cl fp) q4) (fun s H A cl fp => ifs_ok T (G0.inner scope s H A cl fp) q5)
          (fun s H A cl fp => T.I (G0.inner scope s H A cl fp) r5) (fun s H A cl fp => T.G (G0.inner scope s H A cl fp) r6) (fun s H A cl fp => ifs_ok T (G0.inner scope s H A cl fp) r7)
          (fun s H A cl fp => T.E (G0.inner scope s H A cl fp) q6) (fold_no hs) (fun env => fold_no hs1)
      · cases h
    · split at h
      · rename_i hh
        obtain ⟨i, h1, h⟩ := bnd2 h
        obtain ⟨me, h2, h⟩ := bnd2 h
        cases h
        obtain ⟨a1, a2⟩ := asgB_ok G0 hh.1
        exact r_sset (by rw [G0.N]; exact G0.nd) (by rw [G0.N]; exact ixOf_ok h1) a1 (T.E G0 h2) (sw_nloc G0.sc hh.2) a2
      · cases h
  · split at h
    · rename_i hh
      obtain ⟨i, h1, h⟩ := bnd2 h
      obtain ⟨me, h2, h⟩ := bnd2 h
      cases h
      obtain ⟨a1, a2⟩ := asgB_ok G0 hh.1
      refine r_sset (by rw [G0.N]; exact G0.nd) (by rw [G0.N]; exact ixOf_ok h1) a1 (T.E G0 h2) ?_ a2
      rcases hh.2 with q | q
      · exact swap_no q
      · exact sw_nloc G0.sc q
    · cases h
  · rename_i x px y py k1 pt a b k2 p2 spos
    split at h
    · rename_i hh
      obtain ⟨i, h1, h⟩ := bnd2 h
      obtain ⟨j, h2, h⟩ := bnd2 h
      obtain ⟨ms, h3, h⟩ := bnd2 h
      cases h
      obtain ⟨a1, a2, a3, a4⟩ := parB_ok (kt2 := pt) (p2 := p2) (k1 := k1) (k2 := k2) G0.sc hh
      refine r_spar2 G0.calm (by rw [G0.N]; exact G0.nd) (by rw [G0.N]; exact ixOf_ok h1) (by rw [G0.N]; exact ixOf_ok h2) (fun e => ?_) a2 a3 (T.A G0 h3) a4 swS_tup
      have e1 := ixOf_ok h1
      have e2 := ixOf_ok h2
      rw [e, e2] at e1
      exact a1 (Option.some.inj e1).symm
    · split at h
      · rename_i hh
        obtain ⟨g, h1, h⟩ := bnd2 h
        obtain ⟨me, h2, h⟩ := bnd2 h
        cases h
        exact r_sasg (T.E G0 h2) (T.G G0 h1) swS_tup (sw_tup G0.sc hh) rfl
      · cases h
  · rename_i x px y py z pz k1 pt a b c k2 p2 spos
    split at h
    · rename_i hh
      obtain ⟨i, h1, h⟩ := bnd2 h
      obtain ⟨j, h2, h⟩ := bnd2 h
      obtain ⟨l, h4, h⟩ := bnd2 h
      obtain ⟨ms, h3, h⟩ := bnd2 h
      cases h
      obtain ⟨⟨a1, a5, a6⟩, a2, a3, a7, a4⟩ := parB3_ok (kt2 := pt) (p2 := p2) (k1 := k1) (k2 := k2) G0.sc hh
      have e1 := ixOf_ok h1
      have e2 := ixOf_ok h2
      have e3 := ixOf_ok h4
      refine r_spar3 G0.calm (by rw [G0.N]; exact G0.nd) (by rw [G0.N]; exact e1) (by rw [G0.N]; exact e2) (by rw [G0.N]; exact e3) (fun e => ?_) (fun e => ?_) (fun e => ?_) a2 a3 a7 (T.A G0 h3) a4 swS_tup
      · rw [e, e2] at e1
        exact a1 (Option.some.inj e1).symm
      · rw [e, e3] at e1
        exact a5 (Option.some.inj e1).symm
      · rw [e, e3] at e2
        exact a6 (Option.some.inj e2).symm
    · cases h
  · rename_i o po i p1 q pq j p2 k1 pt a b k2 p3 spos
    split at h
    · rename_i hh
      obtain ⟨ms, h1, h⟩ := bnd2 h
      obtain ⟨mo, h2, h⟩ := bnd2 h
      obtain ⟨mi, h3, h⟩ := bnd2 h
      obtain ⟨mq, h4, h⟩ := bnd2 h
      obtain ⟨mj, h5, h⟩ := bnd2 h
      cases h
      exact r_sswp G0.calm (T.A G0 h1) (T.E G0 h2) (T.E G0 h3) (T.E G0 h4) (T.E G0 h5) sw_subs (asg_sub hh.1) (asg_sub hh.2)
    · cases h
  · split at h
    · rename_i hh
      obtain ⟨g, h1, h⟩ := bnd2 h
      obtain ⟨me, h2, h⟩ := bnd2 h
      cases h
      exact r_sasg (T.E G0 h2) (T.G G0 h1) swS_tup (sw_tup G0.sc hh) rfl
    · cases h
  · split at h
    rotate_left
    · cases h
    rename_i hi
    obtain ⟨mo, h1, h⟩ := bnd2 h
    obtain ⟨mi, h2, h⟩ := bnd2 h
    obtain ⟨me, h3, h⟩ := bnd2 h
    cases h
    split
    · exact r_sputd G0.room.units (T.E G0 h3) (T.E G0 h1) (T.E G0 h2) swap_sub
    · exact r_sseti (T.E G0 h3) (T.E G0 h1) (T.E G0 h2) swS_sub rfl rfl (asg_sub hi)
  · split at h
    · rename_i hh
      obtain ⟨i, h1, h⟩ := bnd2 h
      obtain ⟨me, h2, h⟩ := bnd2 h
      obtain ⟨g, h3, h⟩ := bnd2 h
      cases h
      obtain ⟨a1, a2⟩ := asgB_ok G0 hh
      exact r_saug (by rw [G0.N]; exact G0.nd) (by rw [G0.N]; exact ixOf_ok h1) a1 (T.E G0 h2) (iopG_ok h3) a2
    · cases h
  · split at h
    · rename_i hg
      obtain ⟨c, h1, h⟩ := bnd2 h
      cases h
      obtain ⟨g1, g2, _⟩ := glB_ok G0 hg
      exact r_sraise G0.calm G0.tk (G0.exs _ _ h1) g1 g2
    · cases h
  · split at h
    · rename_i hg
      obtain ⟨d, h1, h⟩ := bnd2 h
      obtain ⟨mb, h2, h⟩ := bnd2 h
      obtain ⟨mh, h3, h⟩ := bnd2 h
      cases h
      obtain ⟨g1, g2, _⟩ := glB_ok G0 hg
      refine r_stry G.stk G.frm ⟨g1, g2, .inl (G0.exs _ _ h1).g⟩ G0.tk (fun c b e => G0.isa c d b e) (fun W pn xe tk po => hf (X := X.tr pn xe) (Wx := W) ?_ h2) (fun a pn => r_scons (hnd_ok h3) r_snil)
      exact ⟨⟨G0.calm, G0.N, G0.nd, G0.sc, G0.fn, G0.free, G0.glo, fun x q h => by
        obtain ⟨ps, h1, h2⟩ := G0.funs x q h
        exact ⟨ps, h1, ⟨h2.at_⟩⟩, fun x c h => ⟨(G0.exs x c h).g, (G0.exs x c h).k, (G0.exs x c h).e, (G0.exs x c h).r⟩, G0.isa, tk, G0.room⟩, po, G.stk, G.frm⟩
    · cases h
  · cases h
theorem trS_ok {n : Nat} : ∀ (f : Nat) {X : Cx} {Wx : WX} {ss : List Stmt} {m : MS}, GoodS C X ex k Wx → trS n f C ss = some m → PSs X ss (rdS (kxOf X ex) m Wx)
  | 0, _, _, _, _, _, h => by unfold trS at h; cases h
  | f + 1, X, Wx, [], m, G, h => by
    unfold trS at h
    cases h
    exact r_snil
  | f + 1, X, Wx, s :: r, m, G, h => by
    unfold trS at h
    obtain ⟨a, h1, h⟩ := bnd2 h
    obtain ⟨b, h2, h⟩ := bnd2 h
    cases h
    exact r_scons (stepS_ok (n := n) (fun G h => trS_ok f G h) G h1) (trS_ok f G h2)
end

/-! ## defs -/
def FnA (P : Program) (w : World) (K : PySem.W.Frag) (mg : Str → Option Value) (base : Heap) (ex : Nat → Addr) (k : Nat) (x : Str) (ps : List Str) (φ : List D → M D) : Prop :=
  ∃ (f : Addr) (fd : FuncData), mg x = some (.ref f) ∧ PySem.W.keepIn K (.ref f) = true ∧ Binds K fd ps [] ∧ FnOk P w K mg base (L2.CX P w) k f fd ps (spF ⟨K, P, w, ex⟩ ps.length φ)
theorem FnA.mono {P : Program} {w : World} {K : PySem.W.Frag} {mg : Str → Option Value} {base : Heap} {ex : Nat → Addr} {j k : Nat} {x : Str} {ps : List Str} {φ : List D → M D} (h : FnA P w K mg base ex j x ps φ) (le : j ≤ k) : FnA P w K mg base ex k x ps φ := by
  obtain ⟨f, fd, h1, h2, h3, h4⟩ := h
  exact ⟨f, fd, h1, h2, h3, h4.mono le⟩
/-- what the text's defs may lean on -/
structure Ctx (P : Program) (w : World) (K : PySem.W.Frag) (mg : Str → Option Value) (base : Heap) (ex : Nat → Addr) (C : Ck) (k : Nat) : Prop where
  free : ∀ x ∈ C.free, mg x = none
  glo : ∀ x d, C.glo.lookup x = some d → ∃ u v, mg x = some u ∧ RelV v u ∧ ∀ W, Dq K W v d
  funs : ∀ x q, C.funs.lookup x = some q → ∃ ps : List Str, ps.length = q.1 ∧ FnA P w K mg base ex k x ps q.2
  exs : ∀ x c, C.exs.lookup x = some c → mg x = some (.ref (ex c)) ∧ PySem.W.keepIn K (.ref (ex c)) = true ∧ PySem.W.excIn K (ex c) He.veBase "ValueError.__new__" = true ∧ PySem.W.subIn K (.ref (ex c)) (.type "BaseException") = some true ∧ PySem.W.typeIn K (.ref (ex c)) = some (.type "type")
  isa : ∀ c d b, C.isa c d = some b → PySem.W.exmOne K (.ref (ex c)) (.ref (ex d)) = some b
def env0 (N : List Str) (ds : List D) : Env' := ds.map some ++ List.replicate (N.length - ds.length) none
/-- the store behind a call: what is new is forgotten where the answer is data -/
def gc (d : D) (n : Nat) (st : Sto) : Sto := match d with
  | .p _ => st.take n
  | .loc _ => st
def fnDen (N : List Str) (m : MS) : List D → M D := fun ds st => match m (env0 N ds) st with
  | .nx _ st' => .ok (.p .none) (st'.take st.length)
  | .ret d st' => .ok d (gc d st.length st')
  | .exc c _ st' => .exc c (st'.take st.length)
  | _ => .bad
theorem gc_ok {κ : Kx} {w w' : Wd} {st st' : Sto} {H H' : Hp} {d : D} {v : V} (hH : HoldK κ w st H) (le : w.Le w') (hh : HoldK κ w' st' H') (r : RelD κ.K w' d v) : ∃ w2, w.Le w2 ∧ HoldK κ w2 (gc d st.length st') H' ∧ RelD κ.K w2 d v := by
  cases d with
  | p x => exact ⟨w'.trunc st.length, Wd.le_trunc le hH.len, hh.trunc _, r⟩
  | loc n => exact ⟨w', le, hh, r⟩
theorem rel_start {κ : Kx} {w : Wd} {N : List Str} {ds : List D} {vs : List V} (r : RelL κ.K w ds vs) : RelE κ w (env0 N ds) (L2.start N vs) := by
  have hl := r.length
  refine ⟨by simp [env0, L2.start, hl], fun i d e => ?_⟩
  unfold env0 at e
  by_cases h : i < ds.length
  · rw [List.getElem?_append_left (by rw [List.length_map]; exact h), List.getElem?_map] at e
    cases q : ds[i]? with
    | none => rw [q] at e; cases e
    | some d' =>
      rw [q] at e
      cases e
      obtain ⟨v, h1, h2⟩ := r.get q
      refine ⟨v, ?_, h2⟩
      unfold L2.start
      rw [List.getElem?_append_left (by rw [List.length_map, ← hl]; exact h), List.getElem?_map, h1]
      rfl
  · rw [List.getElem?_append_right (by rw [List.length_map]; omega), List.getElem?_replicate] at e
    split at e <;> cases e
theorem fn_okF {P : Program} {w : World} {K : PySem.W.Frag} {mg : Str → Option Value} {base : Heap} {ex : Nat → Addr} {C : Ck} {k n f : Nat} {x : Str} {params : Arguments} {body : List Stmt} {a : Addr} {fd : FuncData} {ps : List Str} {m : MS}
    (c : Ctx P w K mg base ex C k) (F : FunD K x x params body C.sc [] [] a fd) (S : FnScope C.N ps C.sc) (hb : C.blk = none) (h : trS n f C body = some m) : FnOk P w K mg base (L2.CX P w) (k + 1) a fd ps (spF ⟨K, P, w, ex⟩ ps.length (fnDen C.N m)) := by
  refine F.ok S (fun vs H Q E h => h.1) fun cdv A outer s H vs Q E hr hsp => ⟨_, trS_ok (C := C) (ex := ex) (k := k) f (Wx := fun cls d _ H => E cls d H) ?_ h, ?_⟩
  · exact ⟨⟨rfl, rfl, S.nd, rfl, by unfold Ck.fnB; rw [hb]; rfl, c.free, c.glo, fun x q h => by
      obtain ⟨ps, h1, h2⟩ := c.funs x q h
      exact ⟨ps, h1, ⟨h2⟩⟩, fun x d h => by
      obtain ⟨h1, h2, h3, h4, h5⟩ := c.exs x d h
      exact ⟨h1, h2, h3, raises_own h4 h5⟩, c.isa, takes_of rfl rfl rfl rfl, hr⟩, passes_of rfl, rfl, rfl⟩
  · obtain ⟨hl, wd, ds, st, rl, hH, hm⟩ := hsp
    refine ⟨wd, env0 C.N ds, st, rel_start rl, hH, ?_⟩
    unfold fnDen at hm
    cases q : m (env0 C.N ds) st with
    | nx e s => rw [q] at hm; exact fun w' σ' H' le hh _ => hm (w'.trunc st.length) H' .non (Wd.le_trunc le hH.len) (hh.trunc _) .non
    | ret d s =>
      rw [q] at hm
      intro w' v H' le hh r
      obtain ⟨w2, l2, h2, r2⟩ := gc_ok hH le hh r
      exact hm w2 H' v l2 h2 r2
    | exc c' e s => rw [q] at hm; exact fun w' σ' H' le hh _ => hm (w'.trunc st.length) H' (Wd.le_trunc le hH.len) (hh.trunc _)
    | brk e s => rw [q] at hm; exact hm.elim
    | cnt e s => rw [q] at hm; exact hm.elim
    | bad => rw [q] at hm; exact hm.elim
theorem fn_ok {P : Program} {w : World} {K : PySem.W.Frag} {mg : Str → Option Value} {base : Heap} {ex : Nat → Addr} {C : Ck} {k n f : Nat} {x y : Str} {params : Arguments} {body : List Stmt} {a : Addr} {fd : FuncData} {ps : List Str} {m : MS}
    (c : Ctx P w K mg base ex C k) (F : FunD K y y params body C.sc [] [] a fd) (S : FnScope C.N ps C.sc) (hb : C.blk = none) (h : trS n f C body = some m) (hg : mg x = some (.ref a)) (hbd : Binds K fd ps []) : FnA P w K mg base ex (k + 1) x ps (fnDen C.N m) :=
  ⟨a, fd, hg, F.kp, hbd, fn_okF c F S hb h⟩
end Fw
set_option Elab.async false
set_option linter.all false
set_option maxRecDepth 100000
set_option maxHeartbeats 4000000
namespace Fw
open PySem PySem.Spec PyProof.Rows L2
/-! ## the module's constants: texts, tuples of texts, tuples of ints -/
def isTupT (o : Obj) : Bool := match o.cls with
  | .type t => t == "tuple"
  | _ => false
theorem isTupT_ok {o : Obj} (h : isTupT o = true) : o.cls = .type "tuple" := by
  unfold isTupT at h
  split at h
  · rename_i t e
    rw [e, eq_of_beq h]
  · cases h
def intsU : List Value → List Int → Bool
  | [], [] => true
  | .int i _ :: us, j :: ks => decide (i = j) && intsU us ks
  | _, _ => false
theorem intsU_ok : ∀ {us : List Value} {ks : List Int}, intsU us ks = true → Vals (ks.map V.int) us
  | [], [], _ => .nil
  | u :: us, [], h => by cases u <;> cases h
  | [], _ :: _, h => by cases h
  | u :: us, j :: ks, h => by
    cases u with
    | int i t =>
      have h' : (decide (i = j) && intsU us ks) = true := h
      rw [Bool.and_eq_true] at h'
      have e : i = j := of_decide_eq_true h'.1
      subst e
      exact .cons ⟨t, rfl⟩ (intsU_ok h'.2)
    | _ => cases h
def strsU : List Value → List Str → Bool
  | [], [] => true
  | .str i _ :: us, j :: ks => decide (i = j) && strsU us ks
  | _, _ => false
theorem strsU_ok : ∀ {us : List Value} {ks : List Str}, strsU us ks = true → Vals (ks.map V.str) us
  | [], [], _ => .nil
  | u :: us, [], h => by cases u <;> cases h
  | [], _ :: _, h => by cases h
  | u :: us, j :: ks, h => by
    cases u with
    | str i t =>
      have h' : (decide (i = j) && strsU us ks) = true := h
      rw [Bool.and_eq_true] at h'
      have e : i = j := of_decide_eq_true h'.1
      subst e
      exact .cons ⟨t, rfl⟩ (strsU_ok h'.2)
    | _ => cases h
/-- a constant: its datum -/
inductive Kon where
  | int (i : Int)
  | str (s : Str)
  | ints (ks : List Int)
  | strs (ks : List Str)
def Kon.d : Kon → PyData
  | .int i => .int i
  | .str s => .str s
  | .ints ks => mkD ks
  | .strs ks => .tuple (ks.map .str)
def okInts (K : PySem.W.Frag) (x : Str) (ks : List Int) : Bool := match PySem.W.nsIn K mainGlobals x with
  | some (some (.ref a)) => (match K.lookup a with
    | some o => isTupT o && (match o.data with
      | .seq its _ => decide (its.size ≤ 1000) && intsU its.toList ks
      | _ => false)
    | none => false)
  | _ => false
def okStrs (K : PySem.W.Frag) (x : Str) (ks : List Str) : Bool := match PySem.W.nsIn K mainGlobals x with
  | some (some (.ref a)) => (match K.lookup a with
    | some o => isTupT o && (!isIT o && (match o.data with
      | .seq its _ => decide (its.size ≤ 1000) && strsU its.toList ks
      | _ => false))
    | none => false)
  | _ => false
def Kon.ok (K : PySem.W.Frag) (x : Str) : Kon → Bool
  | .int i => (He.Fa.int x i).ok K
  | .str s => (He.Fa.str x s).ok K
  | .ints ks => okInts K x ks
  | .strs ks => okStrs K x ks
def konsB (l : List (Str × Kon)) (K : PySem.W.Frag) : Bool := l.all fun q => q.2.ok K q.1
theorem strs_dq {K : PySem.W.Frag} {W : Hp} : ∀ k : List Str, DqAll K W (k.map V.str) (k.map PyData.str)
  | [] => .nil
  | i :: r => .cons (.str i) (strs_dq r)
theorem lookup_stripT {K : PySem.W.Frag} {a : Addr} {o : Obj} (h : K.lookup a = some o) (q : isIT o = false) : (strip K).lookup a = some o := by
  unfold strip
  rw [lookup_filter (fun a => !badA K a) K a, if_pos ?_]
  · exact h
  · unfold badA
    rw [h]
    simp only [q, Bool.not_false]
theorem Kon.get {K : PySem.W.Frag} {h : Heap} {mg : Str → Option Value} (X : K.In h) (G : h.Ns mainGlobals mg) {x : Str} : ∀ {c : Kon}, c.ok K x = true → ∃ u v, mg x = some u ∧ RelV v u ∧ ∀ W, Dq K W v c.d
  | .int i, c => by
    obtain ⟨t, e⟩ := He.int_ok X G c
    exact ⟨_, .int i, e, ⟨t, rfl⟩, fun W => .int i⟩
  | .str s, c => by
    obtain ⟨t, e⟩ := He.str_ok X G c
    exact ⟨_, .str s, e, ⟨t, rfl⟩, fun W => .str s⟩
  | .ints ks, c => by
    replace c : okInts K x ks = true := c
    unfold okInts at c
    split at c
    · rename_i a e
      split at c
      · rename_i o ho
        rw [Bool.and_eq_true] at c
        obtain ⟨c1, c2⟩ := c
        split at c2
        · rename_i its n hd
          rw [Bool.and_eq_true] at c2
          refine ⟨_, .ref a, PySem.W.mg_of X G e, rfl, fun W => .mk (.inr ⟨o, its, n, ho, isTupT_ok c1, hd, ?_, intsU_ok c2.2⟩)⟩
          have := of_decide_eq_true c2.1
          rw [sizeLine_eq]; omega
        · cases c2
      · cases c
    · cases c
  | .strs ks, c => by
    replace c : okStrs K x ks = true := c
    unfold okStrs at c
    split at c
    · rename_i a e
      split at c
      · rename_i o ho
        rw [Bool.and_eq_true, Bool.and_eq_true, Bool.not_eq_true'] at c
        obtain ⟨c1, c0, c2⟩ := c
        split at c2
        · rename_i its n hd
          rw [Bool.and_eq_true] at c2
          refine ⟨_, .ref a, PySem.W.mg_of X G e, rfl, fun W => .tup (.inr ⟨o, its, n, lookup_stripT ho c0, isTupT_ok c1, hd, ?_, strsU_ok c2.2⟩) (strs_dq ks)⟩
          have := of_decide_eq_true c2.1
          rw [sizeLine_eq]; omega
        · cases c2
      · cases c
    · cases c
theorem kons_get {l : List (Str × Kon)} {K : PySem.W.Frag} {h : Heap} {mg : Str → Option Value} (X : K.In h) (G : h.Ns mainGlobals mg) (c : konsB l K = true) : ∀ x d, (l.map fun q => (q.1, q.2.d)).lookup x = some d → ∃ u v, mg x = some u ∧ RelV v u ∧ ∀ W, Dq K W v d := by
  intro x d hx
  unfold konsB at c
  induction l with
  | nil => cases hx
  | cons q l ih =>
    rw [List.all_cons, Bool.and_eq_true] at c
    rw [List.map_cons, List.lookup_cons] at hx
    split at hx
    · rename_i e
      have e' := eq_of_beq e
      subst e'
      cases hx
      exact Kon.get X G c.1
    · exact ih c.2 hx
end Fw
set_option Elab.async false
set_option linter.all false
set_option maxRecDepth 100000
set_option maxHeartbeats 4000000
namespace Fw
open PySem PySem.Spec
open L2 (Key)
/-! ## evaluation, row by row -/
section
variable {ma mb mc : Env' → M D} {ms : Env' → M (List D)} {env env1 : Env'} {st st1 st2 : Sto} {g1 : Fn1} {g2 : Fn2} {gl : FnL} {α β : Type}
@[simp] theorem ev_bnd {m : M α} {f : α → M β} : bnd m f st = (match m st with
  | .ok a st' => f a st'
  | .exc c st' => .exc c st'
  | .bad => .bad) := (rfl)
@[simp] theorem ev_ret {a : α} : ret a st = .ok a st := (rfl)
@[simp] theorem ev_bad : (bad : M α) st = .bad := (rfl)
@[simp] theorem ev_m2 : m2 ma mb g2 env = bnd (ma env) (fun x => bnd (mb env) fun y => lft (g2 x y)) := (rfl)
@[simp] theorem ev_m1 : m1 ma g1 env = bnd (ma env) (fun x => lft (g1 x)) := (rfl)
@[simp] theorem ev_mL : mL ms gl env = bnd (ms env) (fun x => lft (gl x)) := (rfl)
@[simp] theorem ev_mC {x : PyData} : mC x env = ret (.p x) := (rfl)
@[simp] theorem ev_aNil : aNil env = ret [] := (rfl)
@[simp] theorem ev_aCons : aCons ma ms env = bnd (ma env) fun x => bnd (ms env) fun xs => ret (x :: xs) := (rfl)
@[simp] theorem ev_lft {o : Sto → Option (D × Sto)} : lft o st = (match o st with
  | some (d, st') => .ok d st'
  | none => .bad) := (rfl)
@[simp] theorem ev_mVar {i : Nat} : mVar i env st = (match env[i]? with
  | some (some d) => .ok d st
  | _ => .bad) := by
  unfold mVar
  cases env[i]? with
  | none => rfl
  | some o => cases o <;> rfl
@[simp] theorem ev_l1 {k : Nat} {f : PyData → Option PyData} {x : PyData} : lift1 k f (.p x) st = (f x).map fun r => (.p r, st) := by
  unfold lift1
  cases k <;> rfl
@[simp] theorem ev_l2 {k : Nat} {f : PyData → PyData → Option PyData} {x y : PyData} : lift2 k f (.p x) (.p y) st = (f x y).map fun r => (.p r, st) := by
  unfold lift2
  cases k <;> rfl
@[simp] theorem ev_gL1 {d : D} : gL1 g1 [d] st = g1 d st := (rfl)
@[simp] theorem ev_gL2 {d e : D} : gL2 g2 [d, e] st = g2 d e st := (rfl)
@[simp] theorem ev_mCall {n : Nat} {φ : List D → M D} : mCall ms (sized n φ) env = bnd (ms env) fun ds => if ds.length = n then φ ds else bad := (rfl)
@[simp] theorem ev_mIf {t : Env' → M Bool} : mIf t ma mb env = bnd (t env) fun k => if k = true then ma env else mb env := (rfl)
@[simp] theorem ev_mNot : mNot ma env = bnd (ma env) fun d => match asB d with
  | some k => ret (.p (.bool (!k)))
  | none => bad := (rfl)
@[simp] theorem ev_mAnd : mAnd ma mb env = bnd (ma env) fun d => match asB d with
  | some true => mb env
  | some false => ret (.p (.bool false))
  | none => bad := (rfl)
@[simp] theorem ev_mOr : mOr ma mb env = bnd (ma env) fun d => match asB d with
  | some true => ret (.p (.bool true))
  | some false => mb env
  | none => bad := (rfl)
@[simp] theorem ev_asB {b : Bool} : asB (.p (.bool b)) = some b := (rfl)
@[simp] theorem ev_asI {i : Int} : asI (.p (.int i)) = some i := (rfl)
@[simp] theorem ev_opt1 {a : α} : opt (some a) st = .ok a st := (rfl)
@[simp] theorem ev_opt0 : (opt none : M α) st = .bad := (rfl)
@[simp] theorem ev_tB : tB ma env = bnd (ma env) fun d => opt (asB d) := (rfl)
@[simp] theorem ev_tV : tV ma env = bnd (ma env) fun d st => match (vw d st).bind truth with
  | some b => .ok b st
  | none => .bad := (rfl)
@[simp] theorem ev_vw {x : PyData} : vw (.p x) st = some x := (rfl)
@[simp] theorem ev_trB {b : Bool} : truth (.bool b) = some b := (rfl)
@[simp] theorem ev_tNt {t : Env' → M Bool} : tNt t env = bnd (t env) fun b => ret (!b) := (rfl)
@[simp] theorem ev_tAn {t u : Env' → M Bool} : tAn t u env = bnd (t env) fun b => if b = true then u env else ret false := (rfl)
@[simp] theorem ev_tOrr {t u : Env' → M Bool} : tOrr t u env = bnd (t env) fun b => if b = true then ret true else u env := (rfl)
@[simp] theorem ev_tTr : tTr env = ret true := (rfl)
@[simp] theorem ev_oNone : oNone env = ret none := (rfl)
@[simp] theorem ev_oSome : oSome ma env = bnd (ma env) fun d => match asI d with
  | some i => ret (some i)
  | none => bad := (rfl)
@[simp] theorem ev_mSl {ml mh : Env' → M (Option Int)} : mSl ma ml mh env = bnd (ma env) fun x => bnd (ml env) fun lo => bnd (mh env) fun hi => lft (lift1 1 (fun y => slP y lo hi) x) := (rfl)
@[simp] theorem ev_mNewD : mNewD env st = .ok (.loc st.length) (st ++ [.dT []]) := (rfl)
@[simp] theorem ev_gTupD_p {xs : List PyData} (h : xs.length ≤ 1000000) : gTupD (xs.map D.p) st = some (.p (.tuple xs), st) := by
  unfold gTupD
  rw [if_pos (by simpa using h), pures_map]
  rfl
@[simp] theorem ev_tup0 : gTupD [] st = some (.p (.tuple []), st) := (rfl)
@[simp] theorem ev_tup1 {a : PyData} : gTupD [.p a] st = some (.p (.tuple [a]), st) := (rfl)
@[simp] theorem ev_tup2 {a b : PyData} : gTupD [.p a, .p b] st = some (.p (.tuple [a, b]), st) := (rfl)
@[simp] theorem ev_tup3 {a b c : PyData} : gTupD [.p a, .p b, .p c] st = some (.p (.tuple [a, b, c]), st) := (rfl)
@[simp] theorem ev_lst0 : gLstD [] st = some (.p (.list []), st) := (rfl)
@[simp] theorem ev_lst1 {a : PyData} : gLstD [.p a] st = some (.p (.list [a]), st) := (rfl)
@[simp] theorem ev_lst2 {a b : PyData} : gLstD [.p a, .p b] st = some (.p (.list [a, b]), st) := (rfl)
@[simp] theorem ev_mut0 : gMutD [] st = some (.loc st.length, st ++ [.lst []]) := (rfl)
/-! statements -/
variable {a b : MS}
@[simp] theorem ev_sNil : sNil env st = .nx env st := (rfl)
@[simp] theorem ev_sSeq : sSeq a b env st = (match a env st with
  | .nx env' st' => b env' st'
  | r => r) := (rfl)
@[simp] theorem ev_sbnd {m : M α} {f : α → Sto → RS} : sbnd m env f st = (match m st with
  | .ok a st' => f a st'
  | .exc c st' => .exc c env st'
  | .bad => .bad) := (rfl)
@[simp] theorem ev_sRet : sRet ma env = sbnd (ma env) env fun d st => .ret d st := (rfl)
@[simp] theorem ev_sRetN : sRetN env st = .ret (.p .none) st := (rfl)
@[simp] theorem ev_sBrk : sBrk env st = .brk env st := (rfl)
@[simp] theorem ev_sCnt : sCnt env st = .cnt env st := (rfl)
@[simp] theorem ev_sExp : sExp ma env = sbnd (ma env) env fun _ st => .nx env st := (rfl)
@[simp] theorem ev_sIf {c : Env' → M Bool} : sIf c a b env = sbnd (c env) env fun k st => if k = true then a env st else b env st := (rfl)
@[simp] theorem ev_sAsg {g : G} : sAsg g ma env = sbnd (ma env) env fun d st => match gSet g d env with
  | some env' => .nx env' st
  | none => .bad := (rfl)
@[simp] theorem ev_sPar {is : List Nat} : sPar is ms env = sbnd (ms env) env fun ds st => if ds.length = is.length ∧ (∀ i ∈ is, i < env.length) then .nx ((is.zip ds).foldl (fun e q => e.set q.1 (some q.2)) env) st else .bad := (rfl)
@[simp] theorem ev_sAug {i : Nat} : sAug i g2 ma env = sbnd (bnd (mVar i env) fun x => bnd (ma env) fun y => lft (g2 x y)) env fun d st => if i < env.length then .nx (env.set i (some d)) st else .bad := (rfl)
@[simp] theorem ev_sRaise {c : Nat} : sRaise c env st = .exc c env st := (rfl)
@[simp] theorem ev_fnDen {N : List Str} {m : MS} {ds : List D} : fnDen N m ds st = (match m (env0 N ds) st with
  | .nx _ st' => .ok (.p .none) (st'.take st.length)
  | .ret d st' => .ok d (gc d st.length st')
  | .exc c _ st' => .exc c (st'.take st.length)
  | _ => .bad) := (rfl)
@[simp] theorem ev_gc {x : PyData} {n : Nat} : gc (.p x) n st = st.take n := (rfl)
@[simp] theorem ev_env0 {N : List Str} {ds : List D} : env0 N ds = ds.map some ++ List.replicate (N.length - ds.length) none := (rfl)
@[simp] theorem ev_gnm {i : Nat} {d : D} : gSet (.nm i) d env = if i < env.length then some (env.set i (some d)) else none := by rw [gSet]
@[simp] theorem ev_gtp {gs : Gs} {x : PyData} : gSet (.tp gs) (.p x) env = (match opn x with
  | some xs => gSets gs xs env
  | none => none) := by
  rw [gSet]
  all_goals (cases opn x <;> rfl)
@[simp] theorem ev_gs0 : gSets .nil [] env = some env := by rw [gSets]
@[simp] theorem ev_gs1 {g : G} {gs : Gs} {x : PyData} {xs : List PyData} : gSets (.cons g gs) (x :: xs) env = (match gSet g (.p x) env with
  | some env1 => gSets gs xs env1
  | none => none) := by
  rw [gSets]
  all_goals (cases gSet g (.p x) env <;> rfl)
@[simp] theorem ev_opnT {xs : List PyData} : opn (.tuple xs) = some xs := (rfl)
@[simp] theorem ev_opnM {ks : List Int} : opn (mkD ks) = some (ks.map .int) := (rfl)
@[simp] theorem ev_takeA {o : Sto} : (st ++ o).take st.length = st := by simp
/-! data -/
theorem ixG_opn {c : PyData} {xs : List PyData} {k : Int} (h : opn c = some xs) : ixG (.p c) (.p (.int k)) st = (L2.atI xs k).map fun x => (.p x, st) := by
  cases c with
  | tuple ys => cases h; rfl
  | dict kvs =>
    show (match opn (.dict kvs) with
      | some xs => (L2.atI xs k).map fun x => (D.p x, st)
      | none => none) = _
    rw [h]
  | _ => cases h
@[simp] theorem ev_ixT {xs : List PyData} {k : Int} : ixG (.p (.tuple xs)) (.p (.int k)) st = (L2.atI xs k).map fun x => (.p x, st) := (rfl)
@[simp] theorem ev_ixL {xs : List PyData} {k : Int} : ixG (.p (.list xs)) (.p (.int k)) st = (L2.atI xs k).map fun x => (.p x, st) := (rfl)
@[simp] theorem ev_at0 {α : Type} {x : α} {xs : List α} : L2.atI (x :: xs) 0 = some x := by
  unfold L2.atI L2.ixN
  rw [if_pos (by omega), if_pos (by simp only [List.length_cons]; omega)]
  rfl
@[simp] theorem ev_at1 {α : Type} {x y : α} {xs : List α} : L2.atI (x :: y :: xs) 1 = some y := by
  unfold L2.atI L2.ixN
  rw [if_pos (by omega), if_pos (by simp only [List.length_cons]; omega)]
  rfl
theorem lenG_opn {c : PyData} {xs : List PyData} (h : opn c = some xs) : lenG (.p c) st = some (.p (.int xs.length), st) := by
  cases c with
  | tuple ys => cases h; rfl
  | dict kvs =>
    show (match opn (.dict kvs) with
      | some xs => some (D.p (.int xs.length), st)
      | none => none) = _
    rw [h]
  | _ => cases h
@[simp] theorem ev_lenT {xs : List PyData} : lenG (.p (.tuple xs)) st = some (.p (.int xs.length), st) := (rfl)
@[simp] theorem ev_lenL {xs : List PyData} : lenG (.p (.list xs)) st = some (.p (.int xs.length), st) := (rfl)
@[simp] theorem ev_addI (i j : Int) : addP (.int i) (.int j) = some (.int (i + j)) := (rfl)
@[simp] theorem ev_subI (i j : Int) : subP (.int i) (.int j) = some (.int (i - j)) := (rfl)
@[simp] theorem ev_negI (i : Int) : negP (.int i) = some (.int (-i)) := (rfl)
@[simp] theorem ev_absI (i : Int) : absP (.int i) = some (.int (if i < 0 then -i else i)) := (rfl)
@[simp] theorem ev_intI (i : Int) : intP (.int i) = some (.int i) := (rfl)
@[simp] theorem ev_addII (i j : Int) : addI (.int i) (.int j) = some (.int (i + j)) := (rfl)
theorem ev_mulI {i j : Int} (h : mulOk i j = true) : mulP (.int i) (.int j) = some (.int (i * j)) := by
  exact if_pos h
theorem ev_mulII {i j : Int} (h : mulOk i j = true) : mulI (.int i) (.int j) = some (.int (i * j)) := by
  exact if_pos h
theorem ev_fdiv {i j : Int} (h : j ≠ 0) (h2 : j.natAbs.log2 < 9000) : fdivP (.int i) (.int j) = some (.int (i.fdiv j)) := by
  exact if_pos ⟨h, h2⟩
theorem ev_mod {i j : Int} (h : j ≠ 0) : modP (.int i) (.int j) = some (.int (i.fmod j)) := by
  exact if_pos h
@[simp] theorem leP_i (a b : Int) : leP (.int a) (.int b) = some (.bool (decide (a ≤ b))) := by
  have h : leP (.int a) (.int b) = some (.bool (!PySem.W.dataLt (.int b) (.int a))) := rfl
  rw [h, PySem.W.dataLt_int]
  congr 2
  by_cases q : a ≤ b
  · simp [q, Int.not_lt.mpr q]
  · simp [q, Int.not_le.mp q]
@[simp] theorem geP_i (a b : Int) : geP (.int a) (.int b) = some (.bool (decide (b ≤ a))) := by
  have h : geP (.int a) (.int b) = some (.bool (!PySem.W.dataLt (.int a) (.int b))) := rfl
  rw [h, PySem.W.dataLt_int]
  congr 2
  by_cases q : b ≤ a
  · simp [q, Int.not_lt.mpr q]
  · simp [q, Int.not_le.mp q]
@[simp] theorem ltP_i (a b : Int) : ltP (.int a) (.int b) = some (.bool (decide (a < b))) := by
  have h : ltP (.int a) (.int b) = some (.bool (PySem.W.dataLt (.int a) (.int b))) := rfl
  rw [h, PySem.W.dataLt_int]
@[simp] theorem gtP_i (a b : Int) : gtP (.int a) (.int b) = some (.bool (decide (b < a))) := by
  have h : gtP (.int a) (.int b) = some (.bool (PySem.W.dataLt (.int b) (.int a))) := rfl
  rw [h, PySem.W.dataLt_int]
@[simp] theorem eqP_i (a b : Int) : eqP (.int a) (.int b) = some (.bool (a == b)) := (rfl)
@[simp] theorem neP_i (a b : Int) : neP (.int a) (.int b) = some (.bool (a != b)) := (rfl)
@[simp] theorem eqP_b (a b : Bool) : eqP (.bool a) (.bool b) = some (.bool (a == b)) := by
  cases a <;> cases b <;> rfl
@[simp] theorem neP_b (a b : Bool) : neP (.bool a) (.bool b) = some (.bool (a != b)) := by
  cases a <;> cases b <;> rfl
@[simp] theorem allP_b (bs : List Bool) : allP (.list (bs.map .bool)) = some (.bool (bs.all id)) := by
  show (boolsOf (bs.map .bool)).map (fun bs => PyData.bool (bs.all id)) = _
  rw [boolsOf_map]
  rfl
@[simp] theorem anyP_b (bs : List Bool) : anyP (.list (bs.map .bool)) = some (.bool (bs.any id)) := by
  show (boolsOf (bs.map .bool)).map (fun bs => PyData.bool (bs.any id)) = _
  rw [boolsOf_map]
  rfl
@[simp] theorem ev_tupP {xs : List PyData} : tupP (.list xs) = some (.tuple xs) := (rfl)
@[simp] theorem ev_lstP {xs : List PyData} : lstP (.tuple xs) = some (.list xs) := (rfl)
@[simp] theorem ev_setLen {i : Nat} {x : Option D} : (env.set i x).length = env.length := List.length_set
end
end Fw
set_option Elab.async false
set_option linter.all false
set_option maxRecDepth 100000
set_option maxHeartbeats 4000000
namespace Q
open PySem PySem.Spec Fw
def fuel : Nat := 2 ^ 1000001
def N_is_integer : List Str := ["value"]
def m_is_integer : MS :=
    sSeq (sRet (mAnd (m1 (mVar 0) (lift1 3 (isiP .int))) (mNot (m1 (mVar 0) (lift1 3 (isiP .bool))))))
    (sNil)
def φ_is_integer : List D → M D := fnDen N_is_integer m_is_integer
def N_divisor : List Str := ["one", "other"]
def m_divisor : MS :=
    sSeq (sPar [0, 1] (aCons (mL (aCons (mVar 0) (aNil)) (gL1 (lift1 1 absP))) (aCons (mL (aCons (mVar 1) (aNil)) (gL1 (lift1 1 absP))) (aNil))))
    (sSeq (sWhile (tB (m2 (mVar 1) (mC (.int 0)) (lift2 3 gtP))) (sSeq (sPar [0, 1] (aCons (mVar 1) (aCons (m2 (mVar 0) (mVar 1) (lift2 1 modP)) (aNil))))
    (sNil)) fuel)
    (sSeq (sRet (mVar 0))
    (sNil)))
def φ_divisor : List D → M D := fnDen N_divisor m_divisor
def N_is_ratio : List Str := ["value", "item"]
def m_is_ratio : MS :=
    sSeq (sIf (tOrr (tNt (tV (m1 (mVar 0) (lift1 3 (isiP .tup))))) (tOrr (tB (m2 (mL (aCons (mVar 0) (aNil)) (gL1 lenG)) (mC (.int 2)) (lift2 3 neP))) (tNt (tV (mL (aCons (mCompV false 0 (.nm 1) [1] (tTr) (mCall (aCons (mVar 1) (aNil)) (sized 1 φ_is_integer))) (aNil)) (gL1 (lift1 1 allP))))))) (sSeq (sRet (mC (.bool false)))
    (sNil)) (sNil))
    (sSeq (sRet (mAnd (m2 (m2 (mVar 0) (mC (.int 1)) ixG) (mC (.int 0)) (lift2 3 gtP)) (m2 (mCall (aCons (m2 (mVar 0) (mC (.int 0)) ixG) (aCons (m2 (mVar 0) (mC (.int 1)) ixG) (aNil))) (sized 2 φ_divisor)) (mC (.int 1)) (lift2 3 eqP))))
    (sNil))
def φ_is_ratio : List D → M D := fnDen N_is_ratio m_is_ratio
def N_make : List Str := ["above", "below", "common"]
def m_make : MS :=
    sSeq (sIf (tB (m2 (mVar 1) (mC (.int 0)) (lift2 3 eqP))) (sSeq (sRaise 0)
    (sNil)) (sNil))
    (sSeq (sAsg (.nm 2) (mCall (aCons (mVar 0) (aCons (mVar 1) (aNil))) (sized 2 φ_divisor)))
    (sSeq (sIf (tB (m2 (mVar 1) (mC (.int 0)) (lift2 3 ltP))) (sSeq (sAsg (.nm 2) (m1 (mVar 2) (lift1 1 negP)))
    (sNil)) (sNil))
    (sSeq (sRet (mL (aCons (m2 (mVar 0) (mVar 2) (lift2 1 fdivP)) (aCons (m2 (mVar 1) (mVar 2) (lift2 1 fdivP)) (aNil))) gTupD))
    (sNil))))
def φ_make : List D → M D := fnDen N_make m_make
def N_of : List Str := ["integer"]
def m_of : MS :=
    sSeq (sRet (mL (aCons (mVar 0) (aCons (mC (.int 1)) (aNil))) gTupD))
    (sNil)
def φ_of : List D → M D := fnDen N_of m_of
def N_add_ratios : List Str := ["one", "other"]
def m_add_ratios : MS :=
    sSeq (sRet (mCall (aCons (m2 (m2 (m2 (mVar 0) (mC (.int 0)) ixG) (m2 (mVar 1) (mC (.int 1)) ixG) (lift2 1 mulP)) (m2 (m2 (mVar 1) (mC (.int 0)) ixG) (m2 (mVar 0) (mC (.int 1)) ixG) (lift2 1 mulP)) (lift2 1 addP)) (aCons (m2 (m2 (mVar 0) (mC (.int 1)) ixG) (m2 (mVar 1) (mC (.int 1)) ixG) (lift2 1 mulP)) (aNil))) (sized 2 φ_make)))
    (sNil)
def φ_add_ratios : List D → M D := fnDen N_add_ratios m_add_ratios
def N_multiply_ratios : List Str := ["one", "other"]
def m_multiply_ratios : MS :=
    sSeq (sRet (mCall (aCons (m2 (m2 (mVar 0) (mC (.int 0)) ixG) (m2 (mVar 1) (mC (.int 0)) ixG) (lift2 1 mulP)) (aCons (m2 (m2 (mVar 0) (mC (.int 1)) ixG) (m2 (mVar 1) (mC (.int 1)) ixG) (lift2 1 mulP)) (aNil))) (sized 2 φ_make)))
    (sNil)
def φ_multiply_ratios : List D → M D := fnDen N_multiply_ratios m_multiply_ratios
def N_is_monomial : List Str := ["value", "count", "item"]
def m_is_monomial : MS :=
    sSeq (sIf (tOrr (tNt (tV (m1 (mVar 0) (lift1 3 (isiP .tup))))) (tB (m2 (mL (aCons (mVar 0) (aNil)) (gL1 lenG)) (mVar 1) (lift2 3 neP)))) (sSeq (sRet (mC (.bool false)))
    (sNil)) (sNil))
    (sSeq (sRet (mL (aCons (mCompV false 0 (.nm 2) [2] (tTr) (mAnd (mCall (aCons (mVar 2) (aNil)) (sized 1 φ_is_integer)) (m2 (mVar 2) (mC (.int 0)) (lift2 3 geP)))) (aNil)) (gL1 (lift1 1 allP))))
    (sNil))
def φ_is_monomial : List D → M D := fnDen N_is_monomial m_is_monomial
def N_times : List Str := ["one", "other", "left", "right"]
def m_times : MS :=
    sSeq (sRet (mL (aCons (mComp false (iArgs (aCons (mVar 0) (aCons (mVar 1) (aNil))) zip2) (.tp (.cons (.nm 2) (.cons (.nm 3) .nil))) [2, 3] (tTr) (m2 (mVar 2) (mVar 3) (lift2 1 addP))) (aNil)) (gL1 (lift1 1 tupP))))
    (sNil)
def φ_times : List D → M D := fnDen N_times m_times
def N_divides : List Str := ["one", "other", "left", "right"]
def m_divides : MS :=
    sSeq (sRet (mL (aCons (mComp false (iArgs (aCons (mVar 0) (aCons (mVar 1) (aNil))) zip2) (.tp (.cons (.nm 2) (.cons (.nm 3) .nil))) [2, 3] (tTr) (m2 (mVar 2) (mVar 3) (lift2 3 leP))) (aNil)) (gL1 (lift1 1 allP))))
    (sNil)
def φ_divides : List D → M D := fnDen N_divides m_divides
def N_over : List Str := ["one", "other", "left", "right"]
def m_over : MS :=
    sSeq (sIf (tNt (tV (mCall (aCons (mVar 1) (aCons (mVar 0) (aNil))) (sized 2 φ_divides)))) (sSeq (sRaise 0)
    (sNil)) (sNil))
    (sSeq (sRet (mL (aCons (mComp false (iArgs (aCons (mVar 0) (aCons (mVar 1) (aNil))) zip2) (.tp (.cons (.nm 2) (.cons (.nm 3) .nil))) [2, 3] (tTr) (m2 (mVar 2) (mVar 3) (lift2 1 subP))) (aNil)) (gL1 (lift1 1 tupP))))
    (sNil))
def φ_over : List D → M D := fnDen N_over m_over
def N_is_poly : List Str := ["value", "count", "pair", "left", "right"]
def m_is_poly : MS :=
    sSeq (sIf (tNt (tV (m1 (mVar 0) (lift1 3 (isiP .tup))))) (sSeq (sRet (mC (.bool false)))
    (sNil)) (sNil))
    (sSeq (sFor (iSeq (mVar 0)) (.nm 2) (sSeq (sIf (tOrr (tNt (tV (m1 (mVar 2) (lift1 3 (isiP .tup))))) (tOrr (tB (m2 (mL (aCons (mVar 2) (aNil)) (gL1 lenG)) (mC (.int 2)) (lift2 3 neP))) (tNt (tV (mCall (aCons (m2 (mVar 2) (mC (.int 0)) ixG) (aCons (mVar 1) (aNil))) (sized 2 φ_is_monomial)))))) (sSeq (sRet (mC (.bool false)))
    (sNil)) (sNil))
    (sSeq (sIf (tOrr (tNt (tV (mCall (aCons (m2 (mVar 2) (mC (.int 1)) ixG) (aNil)) (sized 1 φ_is_ratio)))) (tB (m2 (m2 (mVar 2) (mC (.int 1)) ixG) (mC (mkD [0, 1])) (lift2 3 eqP)))) (sSeq (sRet (mC (.bool false)))
    (sNil)) (sNil))
    (sNil))))
    (sSeq (sRet (mL (aCons (mComp false (iArgs (aCons (mVar 0) (aCons (mSl (mVar 0) (oSome (mC (.int 1))) (oNone)) (aNil))) zip2) (.tp (.cons (.nm 3) (.cons (.nm 4) .nil))) [3, 4] (tTr) (m2 (m2 (mVar 3) (mC (.int 0)) ixG) (m2 (mVar 4) (mC (.int 0)) ixG) (lift2 3 gtP))) (aNil)) (gL1 (lift1 1 allP))))
    (sNil)))
def φ_is_poly : List D → M D := fnDen N_is_poly m_is_poly
def N_check_poly : List Str := ["value", "count"]
def m_check_poly : MS :=
    sSeq (sIf (tNt (tV (mCall (aCons (mVar 0) (aCons (mVar 1) (aNil))) (sized 2 φ_is_poly)))) (sSeq (sRaise 1)
    (sNil)) (sNil))
    (sNil)
def φ_check_poly : List D → M D := fnDen N_check_poly m_check_poly
def N_gathered : List Str := ["pairs", "sums", "one", "number"]
def m_gathered : MS :=
    sSeq (sAsg (.nm 1) (mNewD))
    (sSeq (sFor (iSeq (mVar 0)) (.tp (.cons (.nm 2) (.cons (.nm 3) .nil))) (sSeq (sPutD (mVar 1) (mVar 2) (mIf (tB (m2 (mVar 2) (mVar 1) hasD)) (mCall (aCons (m2 (mVar 1) (mVar 2) getD) (aCons (mVar 3) (aNil))) (sized 2 φ_add_ratios)) (mVar 3)))
    (sNil)))
    (sSeq (sRet (mL (aCons (mComp false (iSeq (mL (aCons (mVar 1) (aNil)) (gL1 (sortK (some true))))) (.nm 2) [2] (tB (m2 (m2 (mVar 1) (mVar 2) getD) (mC (mkD [0, 1])) (lift2 3 neP))) (mL (aCons (mVar 2) (aCons (m2 (mVar 1) (mVar 2) getD) (aNil))) gTupD)) (aNil)) (gL1 (lift1 1 tupP))))
    (sNil)))
def φ_gathered : List D → M D := fnDen N_gathered m_gathered
def N_add_polys : List Str := ["one", "other"]
def m_add_polys : MS :=
    sSeq (sRet (mCall (aCons (m2 (mVar 0) (mVar 1) (lift2 1 addP)) (aNil)) (sized 1 φ_gathered)))
    (sNil)
def φ_add_polys : List D → M D := fnDen N_add_polys m_add_polys
def N_scaled : List Str := ["number", "one", "item", "mate"]
def m_scaled : MS :=
    sSeq (sIf (tB (m2 (mVar 0) (mC (mkD [0, 1])) (lift2 3 eqP))) (sSeq (sRet (mL (aNil) gTupD))
    (sNil)) (sNil))
    (sSeq (sRet (mL (aCons (mCompV false 1 (.tp (.cons (.nm 2) (.cons (.nm 3) .nil))) [2, 3] (tTr) (mL (aCons (mVar 2) (aCons (mCall (aCons (mVar 0) (aCons (mVar 3) (aNil))) (sized 2 φ_multiply_ratios)) (aNil))) gTupD)) (aNil)) (gL1 (lift1 1 tupP))))
    (sNil))
def φ_scaled : List D → M D := fnDen N_scaled m_scaled
def N_shifted : List Str := ["step", "one", "item", "number"]
def m_shifted : MS :=
    sSeq (sRet (mL (aCons (mCompV false 1 (.tp (.cons (.nm 2) (.cons (.nm 3) .nil))) [2, 3] (tTr) (mL (aCons (mCall (aCons (m2 (mVar 0) (mC (.int 0)) ixG) (aCons (mVar 2) (aNil))) (sized 2 φ_times)) (aCons (mCall (aCons (m2 (mVar 0) (mC (.int 1)) ixG) (aCons (mVar 3) (aNil))) (sized 2 φ_multiply_ratios)) (aNil))) gTupD)) (aNil)) (gL1 (lift1 1 tupP))))
    (sNil)
def φ_shifted : List D → M D := fnDen N_shifted m_shifted
def N_multiply_polys : List Str := ["one", "other", "pairs", "step"]
def m_multiply_polys : MS :=
    sSeq (sAsg (.nm 2) (mL (aNil) gMutD))
    (sSeq (sFor (iSeq (mVar 0)) (.nm 3) (sSeq (sExp (mMth (mVar 2) (aCons (mCall (aCons (mVar 3) (aCons (mVar 1) (aNil))) (sized 2 φ_shifted)) (aNil)) extendG))
    (sNil)))
    (sSeq (sRet (mCall (aCons (mVar 2) (aNil)) (sized 1 φ_gathered)))
    (sNil)))
def φ_multiply_polys : List D → M D := fnDen N_multiply_polys m_multiply_polys
def N_slope : List Str := ["one", "index", "pairs", "item", "number", "lower", "k", "exponent"]
def m_slope : MS :=
    sSeq (sAsg (.nm 2) (mL (aNil) gMutD))
    (sSeq (sFor (iSeq (mVar 0)) (.tp (.cons (.nm 3) (.cons (.nm 4) .nil))) (sSeq (sIf (tB (m2 (m2 (mVar 3) (mVar 1) ixG) (mC (.int 0)) (lift2 3 gtP))) (sSeq (sAsg (.nm 5) (mL (aCons (mComp false (iArgs (aCons (mVar 3) (aNil)) enum1) (.tp (.cons (.nm 6) (.cons (.nm 7) .nil))) [6, 7] (tTr) (mIf (tB (m2 (mVar 6) (mVar 1) (lift2 3 eqP))) (m2 (mVar 7) (mC (.int 1)) (lift2 1 subP)) (mVar 7))) (aNil)) (gL1 (lift1 1 tupP))))
    (sSeq (sExp (mMth (mVar 2) (aCons (mL (aCons (mVar 5) (aCons (mCall (aCons (mVar 4) (aCons (mCall (aCons (m2 (mVar 3) (mVar 1) ixG) (aNil)) (sized 1 φ_of)) (aNil))) (sized 2 φ_multiply_ratios)) (aNil))) gTupD) (aNil)) appendG))
    (sNil))) (sNil))
    (sNil)))
    (sSeq (sRet (mCall (aCons (mVar 2) (aNil)) (sized 1 φ_gathered)))
    (sNil)))
def φ_slope : List D → M D := fnDen N_slope m_slope
def N_falls : List Str := ["one", "other", "found", "high", "steps", "k"]
def m_falls : MS :=
    sSeq (sAsg (.nm 2) (mC (.int 1)))
    (sSeq (sFor (iArgs (aCons (mVar 0) (aCons (mVar 1) (aNil))) zip2) (.tp (.cons (.nm 3) (.cons (.nm 4) .nil))) (sSeq (sFor (iArgs (aCons (mVar 4) (aNil)) rng1) (.nm 5) (sSeq (sAug 2 (lift2 1 mulI) (m2 (mVar 3) (mVar 5) (lift2 1 subP)))
    (sNil)))
    (sNil)))
    (sSeq (sRet (mVar 2))
    (sNil)))
def φ_falls : List D → M D := fnDen N_falls m_falls
def N_acted : List Str := ["one", "other", "count", "found", "item", "number", "pairs", "mate", "factor", "worth"]
def m_acted : MS :=
    sSeq (sExp (mCall (aCons (mVar 0) (aCons (mVar 2) (aNil))) (sized 2 φ_check_poly)))
    (sSeq (sExp (mCall (aCons (mVar 1) (aCons (mVar 2) (aNil))) (sized 2 φ_check_poly)))
    (sSeq (sAsg (.nm 3) (mL (aNil) gTupD))
    (sSeq (sFor (iSeq (mVar 0)) (.tp (.cons (.nm 4) (.cons (.nm 5) .nil))) (sSeq (sAsg (.nm 6) (mL (aNil) gMutD))
    (sSeq (sFor (iSeq (mVar 1)) (.tp (.cons (.nm 7) (.cons (.nm 8) .nil))) (sSeq (sIf (tV (mCall (aCons (mVar 4) (aCons (mVar 7) (aNil))) (sized 2 φ_divides))) (sSeq (sAsg (.nm 9) (mCall (aCons (mCall (aCons (mVar 5) (aCons (mVar 8) (aNil))) (sized 2 φ_multiply_ratios)) (aCons (mCall (aCons (mCall (aCons (mVar 7) (aCons (mVar 4) (aNil))) (sized 2 φ_falls)) (aNil)) (sized 1 φ_of)) (aNil))) (sized 2 φ_multiply_ratios)))
    (sSeq (sExp (mMth (mVar 6) (aCons (mL (aCons (mCall (aCons (mVar 7) (aCons (mVar 4) (aNil))) (sized 2 φ_over)) (aCons (mVar 9) (aNil))) gTupD) (aNil)) appendG))
    (sNil))) (sNil))
    (sNil)))
    (sSeq (sAsg (.nm 3) (mCall (aCons (mVar 3) (aCons (mCall (aCons (mVar 6) (aNil)) (sized 1 φ_gathered)) (aNil))) (sized 2 φ_add_polys)))
    (sNil)))))
    (sSeq (sRet (mVar 3))
    (sNil)))))
def φ_acted : List D → M D := fnDen N_acted m_acted
def N_by_slopes : List Str := ["one", "other", "count", "found", "item", "number", "part", "index", "steps", "_"]
def m_by_slopes : MS :=
    sSeq (sExp (mCall (aCons (mVar 0) (aCons (mVar 2) (aNil))) (sized 2 φ_check_poly)))
    (sSeq (sAsg (.nm 3) (mL (aNil) gTupD))
    (sSeq (sFor (iSeq (mVar 0)) (.tp (.cons (.nm 4) (.cons (.nm 5) .nil))) (sSeq (sAsg (.nm 6) (mVar 1))
    (sSeq (sFor (iArgs (aCons (mVar 4) (aNil)) enum1) (.tp (.cons (.nm 7) (.cons (.nm 8) .nil))) (sSeq (sFor (iArgs (aCons (mVar 8) (aNil)) rng1) (.nm 9) (sSeq (sAsg (.nm 6) (mCall (aCons (mVar 6) (aCons (mVar 7) (aNil))) (sized 2 φ_slope)))
    (sNil)))
    (sNil)))
    (sSeq (sAsg (.nm 3) (mCall (aCons (mVar 3) (aCons (mCall (aCons (mVar 5) (aCons (mVar 6) (aNil))) (sized 2 φ_scaled)) (aNil))) (sized 2 φ_add_polys)))
    (sNil)))))
    (sSeq (sRet (mVar 3))
    (sNil))))
def φ_by_slopes : List D → M D := fnDen N_by_slopes m_by_slopes
def N_product_rule : List Str := ["one", "other", "poly", "count"]
def m_product_rule : MS :=
    sSeq (sRet (mCall (aCons (mCall (aCons (mVar 0) (aCons (mVar 1) (aNil))) (sized 2 φ_multiply_polys)) (aCons (mVar 2) (aCons (mVar 3) (aNil)))) (sized 3 φ_acted)))
    (sNil)
def φ_product_rule : List D → M D := fnDen N_product_rule m_product_rule
def N__law_tape : List Str := ["script", "seed", "cell"]
def m__law_tape : MS :=
    sSeq (sAsg (.nm 1) (mC (.int 7)))
    (sSeq (sFor (iSeq (mVar 0)) (.nm 2) (sSeq (sAsg (.nm 1) (m2 (mL (aCons (m2 (m2 (mVar 1) (mC (.int 31)) (lift2 1 mulP)) (mVar 2) (lift2 1 addP)) (aNil)) (gL1 (lift1 1 intP))) (mC (.int 1000003)) (lift2 1 modP)))
    (sNil)))
    (sSeq (sRet (mL (aCons (mCompV true 0 (.nm 2) [2] (tTr) (mL (aCons (mL (aCons (mVar 2) (aNil)) (gL1 (lift1 1 intP))) (aNil)) (gL1 (lift1 1 absP)))) (aCons (m2 (mVar 1) (mC (.int 1)) (lift2 1 addP)) (aNil))) gMutD))
    (sNil)))
def φ__law_tape : List D → M D := fnDen N__law_tape m__law_tape
def N__law_draw : List Str := ["tape", "many", "cells", "number"]
def m__law_draw : MS :=
    sSeq (sAsg (.nm 2) (m2 (mVar 0) (mC (.int 0)) ixG))
    (sSeq (sWhile (tAn (tB (m2 (mL (aCons (mVar 2) (aNil)) (gL1 lenG)) (mC (.int 0)) (lift2 3 gtP))) (tB (m2 (m2 (mVar 2) (mC (.int 0)) ixG) (mC (.int 0)) (lift2 3 eqP)))) (sSeq (sExp (mMth (mVar 2) (aCons (mC (.int 0)) (aNil)) popAtG))
    (sNil)) fuel)
    (sSeq (sIf (tB (m2 (mL (aCons (mVar 2) (aNil)) (gL1 lenG)) (mC (.int 0)) (lift2 3 gtP))) (sSeq (sAsg (.nm 3) (m2 (mVar 2) (mC (.int 0)) ixG))
    (sSeq (sSetI (mVar 2) (mC (.int 0)) (m2 (mVar 3) (mVar 1) (lift2 1 fdivP)))
    (sSeq (sRet (m2 (mL (aCons (mVar 3) (aNil)) (gL1 (lift1 1 intP))) (mVar 1) (lift2 1 modP)))
    (sNil)))) (sNil))
    (sSeq (sSetI (mVar 0) (mC (.int 1)) (m2 (mL (aCons (m2 (m2 (m2 (mVar 0) (mC (.int 1)) ixG) (mC (.int 48271)) (lift2 1 mulP)) (mC (.int 12345)) (lift2 1 addP)) (aNil)) (gL1 (lift1 1 intP))) (mC (.int 2147483647)) (lift2 1 modP)))
    (sSeq (sRet (m2 (mL (aCons (m2 (m2 (mVar 0) (mC (.int 1)) ixG) (mC (.int 64)) (lift2 1 fdivP)) (aNil)) (gL1 (lift1 1 intP))) (mVar 1) (lift2 1 modP)))
    (sNil)))))
def φ__law_draw : List D → M D := fnDen N__law_draw m__law_draw
def N__law_same : List Str := ["actual", "due", "k"]
def m__law_same (self : List D → M D) : MS :=
    sSeq (sIf (tB (m2 (mVar 1) (mC .none) (lift2 1 (isP false)))) (sSeq (sRet (m2 (mVar 0) (mC .none) (lift2 1 (isP false))))
    (sNil)) (sNil))
    (sSeq (sIf (tV (m1 (mVar 1) (lift1 3 (isiP .bool)))) (sSeq (sRet (mAnd (m1 (mVar 0) (lift1 3 (isiP .bool))) (m2 (mVar 0) (mVar 1) (lift2 3 eqP))))
    (sNil)) (sNil))
    (sSeq (sIf (tV (m1 (mVar 1) (lift1 3 (isiP .tup)))) (sSeq (sIf (tOrr (tNt (tV (m1 (mVar 0) (lift1 3 (isiP .tup))))) (tB (m2 (mL (aCons (mVar 0) (aNil)) (gL1 lenG)) (mL (aCons (mVar 1) (aNil)) (gL1 lenG)) (lift2 3 neP)))) (sSeq (sRet (mC (.bool false)))
    (sNil)) (sNil))
    (sSeq (sRet (mL (aCons (mComp false (iArgs (aCons (mL (aCons (mVar 1) (aNil)) (gL1 lenG)) (aNil)) rng1) (.nm 2) [2] (tTr) (mCall (aCons (m2 (mVar 0) (mVar 2) ixG) (aCons (m2 (mVar 1) (mVar 2) ixG) (aNil))) (sized 2 self))) (aNil)) (gL1 (lift1 1 allP))))
    (sNil))) (sNil))
    (sSeq (sIf (tV (m1 (mVar 1) (lift1 3 (isiP .str)))) (sSeq (sRet (mAnd (m1 (mVar 0) (lift1 3 (isiP .str))) (m2 (mVar 0) (mVar 1) (lift2 3 eqP))))
    (sNil)) (sNil))
    (sSeq (sRet (mAnd (m1 (mVar 0) (lift1 3 (isiP .int))) (mAnd (mNot (m1 (mVar 0) (lift1 3 (isiP .bool)))) (m2 (mVar 0) (mVar 1) (lift2 3 eqP)))))
    (sNil)))))
def φ__law_same : Nat → List D → M D
  | 0 => fun _ => bad
  | n + 1 => fnDen N__law_same (m__law_same (φ__law_same n))
def N__law_make : List Str := ["above", "under", "one", "other"]
def m__law_make : MS :=
    sSeq (sPar [2, 3] (aCons (mL (aCons (mVar 0) (aNil)) (gL1 (lift1 1 absP))) (aCons (mL (aCons (mVar 1) (aNil)) (gL1 (lift1 1 absP))) (aNil))))
    (sSeq (sWhile (tB (m2 (mVar 3) (mC (.int 0)) (lift2 3 gtP))) (sSeq (sPar [2, 3] (aCons (mVar 3) (aCons (m2 (mVar 2) (mVar 3) (lift2 1 modP)) (aNil))))
    (sNil)) fuel)
    (sSeq (sRet (mIf (tB (m2 (mVar 1) (mC (.int 0)) (lift2 3 gtP))) (mL (aCons (m2 (mVar 0) (mVar 2) (lift2 1 fdivP)) (aCons (m2 (mVar 1) (mVar 2) (lift2 1 fdivP)) (aNil))) gTupD) (mL (aCons (m2 (m1 (mVar 0) (lift1 1 negP)) (mVar 2) (lift2 1 fdivP)) (aCons (m2 (m1 (mVar 1) (lift1 1 negP)) (mVar 2) (lift2 1 fdivP)) (aNil))) gTupD)))
    (sNil)))
def φ__law_make : List D → M D := fnDen N__law_make m__law_make
def N__law_plus : List Str := ["one", "other"]
def m__law_plus : MS :=
    sSeq (sRet (mCall (aCons (m2 (m2 (m2 (mVar 0) (mC (.int 0)) ixG) (m2 (mVar 1) (mC (.int 1)) ixG) (lift2 1 mulP)) (m2 (m2 (mVar 1) (mC (.int 0)) ixG) (m2 (mVar 0) (mC (.int 1)) ixG) (lift2 1 mulP)) (lift2 1 addP)) (aCons (m2 (m2 (mVar 0) (mC (.int 1)) ixG) (m2 (mVar 1) (mC (.int 1)) ixG) (lift2 1 mulP)) (aNil))) (sized 2 φ__law_make)))
    (sNil)
def φ__law_plus : List D → M D := fnDen N__law_plus m__law_plus
def N__law_by : List Str := ["one", "other"]
def m__law_by : MS :=
    sSeq (sRet (mCall (aCons (m2 (m2 (mVar 0) (mC (.int 0)) ixG) (m2 (mVar 1) (mC (.int 0)) ixG) (lift2 1 mulP)) (aCons (m2 (m2 (mVar 0) (mC (.int 1)) ixG) (m2 (mVar 1) (mC (.int 1)) ixG) (lift2 1 mulP)) (aNil))) (sized 2 φ__law_make)))
    (sNil)
def φ__law_by : List D → M D := fnDen N__law_by m__law_by
def N__law_gather : List Str := ["pairs", "known", "item", "number"]
def m__law_gather : MS :=
    sSeq (sAsg (.nm 1) (mNewD))
    (sSeq (sFor (iSeq (mVar 0)) (.tp (.cons (.nm 2) (.cons (.nm 3) .nil))) (sSeq (sPutD (mVar 1) (mVar 2) (mIf (tB (m2 (mVar 2) (mVar 1) hasD)) (mCall (aCons (m2 (mVar 1) (mVar 2) getD) (aCons (mVar 3) (aNil))) (sized 2 φ__law_plus)) (mVar 3)))
    (sNil)))
    (sSeq (sRet (mL (aCons (mComp false (iSeq (m1 (mL (aCons (mVar 1) (aNil)) (gL1 sortG)) (lift1 1 revP))) (.nm 2) [2] (tB (m2 (m2 (m2 (mVar 1) (mVar 2) getD) (mC (.int 0)) ixG) (mC (.int 0)) (lift2 3 neP))) (mL (aCons (mVar 2) (aCons (m2 (mVar 1) (mVar 2) getD) (aNil))) gTupD)) (aNil)) (gL1 (lift1 1 tupP))))
    (sNil)))
def φ__law_gather : List D → M D := fnDen N__law_gather m__law_gather
def N__law_scaled : List Str := ["number", "one", "item", "mate"]
def m__law_scaled : MS :=
    sSeq (sRet (mCall (aCons (mCompV false 1 (.tp (.cons (.nm 2) (.cons (.nm 3) .nil))) [2, 3] (tTr) (mL (aCons (mVar 2) (aCons (mCall (aCons (mVar 0) (aCons (mVar 3) (aNil))) (sized 2 φ__law_by)) (aNil))) gTupD)) (aNil)) (sized 1 φ__law_gather)))
    (sNil)
def φ__law_scaled : List D → M D := fnDen N__law_scaled m__law_scaled
def N__law_total : List Str := ["one", "other"]
def m__law_total : MS :=
    sSeq (sRet (mCall (aCons (m2 (mVar 0) (mVar 1) (lift2 1 addP)) (aNil)) (sized 1 φ__law_gather)))
    (sNil)
def φ__law_total : List D → M D := fnDen N__law_total m__law_total
def N__law_slope : List Str := ["one", "index", "pairs", "item", "number"]
def m__law_slope : MS :=
    sSeq (sAsg (.nm 2) (mL (aNil) gMutD))
    (sSeq (sFor (iSeq (mVar 0)) (.tp (.cons (.nm 3) (.cons (.nm 4) .nil))) (sSeq (sIf (tB (m2 (m2 (mVar 3) (mVar 1) ixG) (mC (.int 0)) (lift2 3 gtP))) (sSeq (sExp (mMth (mVar 2) (aCons (mL (aCons (m2 (m2 (mSl (mVar 3) (oNone) (oSome (mVar 1))) (mL (aCons (m2 (m2 (mVar 3) (mVar 1) ixG) (mC (.int 1)) (lift2 1 subP)) (aNil)) gTupD) (lift2 1 addP)) (mSl (mVar 3) (oSome (m2 (mVar 1) (mC (.int 1)) (lift2 1 addP))) (oNone)) (lift2 1 addP)) (aCons (mCall (aCons (mVar 4) (aCons (mL (aCons (m2 (mVar 3) (mVar 1) ixG) (aCons (mC (.int 1)) (aNil))) gTupD) (aNil))) (sized 2 φ__law_by)) (aNil))) gTupD) (aNil)) appendG))
    (sNil)) (sNil))
    (sNil)))
    (sSeq (sRet (mCall (aCons (mVar 2) (aNil)) (sized 1 φ__law_gather)))
    (sNil)))
def φ__law_slope : List D → M D := fnDen N__law_slope m__law_slope
def N__law_fraction : List Str := ["tape"]
def m__law_fraction : MS :=
    sSeq (sRet (mCall (aCons (m2 (mCall (aCons (mVar 0) (aCons (mC (.int 9)) (aNil))) (sized 2 φ__law_draw)) (mC (.int 4)) (lift2 1 subP)) (aCons (m2 (mC (.int 1)) (mCall (aCons (mVar 0) (aCons (mC (.int 3)) (aNil))) (sized 2 φ__law_draw)) (lift2 1 addP)) (aNil))) (sized 2 φ__law_make)))
    (sNil)
def φ__law_fraction : List D → M D := fnDen N__law_fraction m__law_fraction
def N__law_term : List Str := ["tape", "count", "most", "k", "at", "left", "item"]
def m__law_term : MS :=
    sSeq (sPar [5, 6] (aCons (mCall (aCons (mVar 0) (aCons (m2 (mVar 2) (mC (.int 1)) (lift2 1 addP)) (aNil))) (sized 2 φ__law_draw)) (aCons (mL (aNil) gMutD) (aNil))))
    (sSeq (sFor (iArgs (aCons (mVar 1) (aNil)) rng1) (.nm 3) (sSeq (sExp (mMth (mVar 6) (aCons (mIf (tB (m2 (m2 (mVar 3) (mC (.int 1)) (lift2 1 addP)) (mVar 1) (lift2 3 ltP))) (mCall (aCons (mVar 0) (aCons (m2 (mVar 5) (mC (.int 1)) (lift2 1 addP)) (aNil))) (sized 2 φ__law_draw)) (mVar 5)) (aNil)) appendG))
    (sSeq (sAsg (.nm 5) (m2 (mVar 5) (m2 (mVar 6) (m1 (mC (.int 1)) (lift1 1 negP)) ixG) (lift2 1 subP)))
    (sNil))))
    (sSeq (sAsg (.nm 4) (mCall (aCons (mVar 0) (aCons (mVar 1) (aNil))) (sized 2 φ__law_draw)))
    (sSeq (sRet (mL (aCons (m2 (mSl (mVar 6) (oSome (mVar 4)) (oNone)) (mSl (mVar 6) (oNone) (oSome (mVar 4))) (lift2 1 addP)) (aNil)) (gL1 (lift1 1 tupP))))
    (sNil))))
def φ__law_term : List D → M D := fnDen N__law_term m__law_term
def N__law_poly : List Str := ["tape", "count", "most", "size", "k"]
def m__law_poly : MS :=
    sSeq (sRet (mCall (aCons (mComp false (iArgs (aCons (mCall (aCons (mVar 0) (aCons (m2 (mVar 3) (mC (.int 1)) (lift2 1 addP)) (aNil))) (sized 2 φ__law_draw)) (aNil)) rng1) (.nm 4) [4] (tTr) (mL (aCons (mCall (aCons (mVar 0) (aCons (mVar 1) (aCons (mVar 2) (aNil)))) (sized 3 φ__law_term)) (aCons (mCall (aCons (mVar 0) (aNil)) (sized 1 φ__law_fraction)) (aNil))) gTupD)) (aNil)) (sized 1 φ__law_gather)))
    (sNil)
def φ__law_poly : List D → M D := fnDen N__law_poly m__law_poly
def N__law_acted : List Str := ["one", "other", "found", "item", "number", "part", "k", "turn"]
def m__law_acted : MS :=
    sSeq (sAsg (.nm 2) (mL (aNil) gTupD))
    (sSeq (sFor (iSeq (mVar 0)) (.tp (.cons (.nm 3) (.cons (.nm 4) .nil))) (sSeq (sAsg (.nm 5) (mVar 1))
    (sSeq (sFor (iArgs (aCons (mL (aCons (mVar 3) (aNil)) (gL1 lenG)) (aNil)) rng1) (.nm 6) (sSeq (sFor (iArgs (aCons (m2 (mVar 3) (mVar 6) ixG) (aNil)) rng1) (.nm 7) (sSeq (sAsg (.nm 5) (mCall (aCons (mVar 5) (aCons (mVar 6) (aNil))) (sized 2 φ__law_slope)))
    (sNil)))
    (sNil)))
    (sSeq (sAsg (.nm 2) (mCall (aCons (mVar 2) (aCons (mCall (aCons (mVar 4) (aCons (mVar 5) (aNil))) (sized 2 φ__law_scaled)) (aNil))) (sized 2 φ__law_total)))
    (sNil)))))
    (sSeq (sRet (mVar 2))
    (sNil)))
def φ__law_acted : List D → M D := fnDen N__law_acted m__law_acted
def N_negative_ratios : List Str := ["number"]
def m_negative_ratios : MS :=
    sSeq (sRet (mL (aCons (m1 (m2 (mVar 0) (mC (.int 0)) ixG) (lift1 1 negP)) (aCons (m2 (mVar 0) (mC (.int 1)) ixG) (aNil))) gTupD))
    (sNil)
def φ_negative_ratios : List D → M D := fnDen N_negative_ratios m_negative_ratios
def N_unit : List Str := ["count"]
def m_unit : MS :=
    sSeq (sRet (m2 (mL (aCons (mC (.int 0)) (aNil)) gTupD) (mVar 0) (lift2 1 mulP)))
    (sNil)
def φ_unit : List D → M D := fnDen N_unit m_unit
def N_constant : List Str := ["count", "number"]
def m_constant : MS :=
    sSeq (sRet (mIf (tB (m2 (mVar 1) (mC (mkD [0, 1])) (lift2 3 neP))) (mL (aCons (mL (aCons (mCall (aCons (mVar 0) (aNil)) (sized 1 φ_unit)) (aCons (mVar 1) (aNil))) gTupD) (aNil)) gTupD) (mL (aNil) gTupD)))
    (sNil)
def φ_constant : List D → M D := fnDen N_constant m_constant
def N_negative_polys : List Str := ["one", "item", "number"]
def m_negative_polys : MS :=
    sSeq (sRet (mL (aCons (mCompV false 0 (.tp (.cons (.nm 1) (.cons (.nm 2) .nil))) [1, 2] (tTr) (mL (aCons (mVar 1) (aCons (mCall (aCons (mVar 2) (aNil)) (sized 1 φ_negative_ratios)) (aNil))) gTupD)) (aNil)) (gL1 (lift1 1 tupP))))
    (sNil)
def φ_negative_polys : List D → M D := fnDen N_negative_polys m_negative_polys
def N_subtract : List Str := ["one", "other"]
def m_subtract : MS :=
    sSeq (sRet (mCall (aCons (m2 (mVar 0) (mCall (aCons (mVar 1) (aNil)) (sized 1 φ_negative_polys)) (lift2 1 addP)) (aNil)) (sized 1 φ_gathered)))
    (sNil)
def φ_subtract : List D → M D := fnDen N_subtract m_subtract
def N_check_table : List Str := ["rows", "count", "row", "one"]
def m_check_table : MS :=
    sSeq (sIf (tOrr (tNt (tV (m1 (mVar 0) (lift1 3 (isiP .tup))))) (tOrr (tB (m2 (mVar 0) (mL (aNil) gTupD) (lift2 3 eqP))) (tOrr (tB (m2 (mL (aCons (mVar 0) (aNil)) (gL1 lenG)) (mC (.int 5)) (lift2 3 gtP))) (tNt (tV (m1 (m2 (mVar 0) (mC (.int 0)) ixG) (lift1 3 (isiP .tup)))))))) (sSeq (sRaise 1)
    (sNil)) (sNil))
    (sSeq (sIf (tOrr (tB (m2 (m2 (mVar 0) (mC (.int 0)) ixG) (mL (aNil) gTupD) (lift2 3 eqP))) (tB (m2 (mL (aCons (m2 (mVar 0) (mC (.int 0)) ixG) (aNil)) (gL1 lenG)) (mC (.int 5)) (lift2 3 gtP)))) (sSeq (sRaise 1)
    (sNil)) (sNil))
    (sSeq (sFor (iSeq (mVar 0)) (.nm 2) (sSeq (sIf (tOrr (tNt (tV (m1 (mVar 2) (lift1 3 (isiP .tup))))) (tOrr (tB (m2 (mL (aCons (mVar 2) (aNil)) (gL1 lenG)) (mL (aCons (m2 (mVar 0) (mC (.int 0)) ixG) (aNil)) (gL1 lenG)) (lift2 3 neP))) (tNt (tV (mL (aCons (mCompV false 2 (.nm 3) [3] (tTr) (mCall (aCons (mVar 3) (aCons (mVar 1) (aNil))) (sized 2 φ_is_poly))) (aNil)) (gL1 (lift1 1 allP))))))) (sSeq (sRaise 1)
    (sNil)) (sNil))
    (sNil)))
    (sNil)))
def φ_check_table : List D → M D := fnDen N_check_table m_check_table
def N_expanded : List Str := ["rows", "count", "found", "place", "one", "rest", "part", "row"]
def m_expanded (self : List D → M D) : MS :=
    sSeq (sIf (tB (m2 (mVar 0) (mL (aNil) gTupD) (lift2 3 eqP))) (sSeq (sRet (mCall (aCons (mVar 1) (aCons (mC (mkD [1, 1])) (aNil))) (sized 2 φ_constant)))
    (sNil)) (sNil))
    (sSeq (sAsg (.nm 2) (mL (aNil) gTupD))
    (sSeq (sFor (iArgs (aCons (m2 (mVar 0) (mC (.int 0)) ixG) (aNil)) enum1) (.tp (.cons (.nm 3) (.cons (.nm 4) .nil))) (sSeq (sIf (tB (m2 (mVar 4) (mL (aNil) gTupD) (lift2 3 neP))) (sSeq (sAsg (.nm 5) (mL (aCons (mComp false (iSeq (mSl (mVar 0) (oSome (mC (.int 1))) (oNone))) (.nm 7) [7] (tTr) (m2 (mSl (mVar 7) (oNone) (oSome (mVar 3))) (mSl (mVar 7) (oSome (m2 (mVar 3) (mC (.int 1)) (lift2 1 addP))) (oNone)) (lift2 1 addP))) (aNil)) (gL1 (lift1 1 tupP))))
    (sSeq (sAsg (.nm 6) (mCall (aCons (mVar 4) (aCons (mCall (aCons (mVar 5) (aCons (mVar 1) (aNil))) (sized 2 self)) (aNil))) (sized 2 φ_multiply_polys)))
    (sSeq (sAsg (.nm 2) (mIf (tB (m2 (m2 (mVar 3) (mC (.int 2)) (lift2 1 modP)) (mC (.int 0)) (lift2 3 eqP))) (mCall (aCons (mVar 2) (aCons (mVar 6) (aNil))) (sized 2 φ_add_polys)) (mCall (aCons (mVar 2) (aCons (mVar 6) (aNil))) (sized 2 φ_subtract))))
    (sNil)))) (sNil))
    (sNil)))
    (sSeq (sRet (mVar 2))
    (sNil))))
def φ_expanded : Nat → List D → M D
  | 0 => fun _ => bad
  | n + 1 => fnDen N_expanded (m_expanded (φ_expanded n))
def N_determinant : List Str := ["rows", "count"]
def m_determinant : MS :=
    sSeq (sExp (mCall (aCons (mVar 0) (aCons (mVar 1) (aNil))) (sized 2 φ_check_table)))
    (sSeq (sIf (tB (m2 (mL (aCons (mVar 0) (aNil)) (gL1 lenG)) (mL (aCons (m2 (mVar 0) (mC (.int 0)) ixG) (aNil)) (gL1 lenG)) (lift2 3 neP))) (sSeq (sRaise 1)
    (sNil)) (sNil))
    (sSeq (sRet (mCall (aCons (mVar 0) (aCons (mVar 1) (aNil))) (sized 2 (φ_expanded 9))))
    (sNil)))
def φ_determinant : List D → M D := fnDen N_determinant m_determinant
def N_partner : List Str := ["rows", "count", "size", "found", "column", "line", "place", "rest", "part", "k", "row"]
def m_partner : MS :=
    sSeq (sExp (mCall (aCons (mVar 0) (aCons (mVar 1) (aNil))) (sized 2 φ_check_table)))
    (sSeq (sIf (tB (m2 (mL (aCons (mVar 0) (aNil)) (gL1 lenG)) (mL (aCons (m2 (mVar 0) (mC (.int 0)) ixG) (aNil)) (gL1 lenG)) (lift2 3 neP))) (sSeq (sRaise 1)
    (sNil)) (sNil))
    (sSeq (sAsg (.nm 2) (mL (aCons (mVar 0) (aNil)) (gL1 lenG)))
    (sSeq (sAsg (.nm 3) (mL (aNil) gMutD))
    (sSeq (sFor (iArgs (aCons (mVar 2) (aNil)) rng1) (.nm 4) (sSeq (sAsg (.nm 5) (mL (aNil) gMutD))
    (sSeq (sFor (iArgs (aCons (mVar 2) (aNil)) rng1) (.nm 6) (sSeq (sAsg (.nm 7) (mL (aCons (mComp false (iArgs (aCons (mVar 0) (aNil)) enum1) (.tp (.cons (.nm 9) (.cons (.nm 10) .nil))) [9, 10] (tB (m2 (mVar 9) (mVar 6) (lift2 3 neP))) (m2 (mSl (mVar 10) (oNone) (oSome (mVar 4))) (mSl (mVar 10) (oSome (m2 (mVar 4) (mC (.int 1)) (lift2 1 addP))) (oNone)) (lift2 1 addP))) (aNil)) (gL1 (lift1 1 tupP))))
    (sSeq (sAsg (.nm 8) (mCall (aCons (mVar 7) (aCons (mVar 1) (aNil))) (sized 2 (φ_expanded 9))))
    (sSeq (sExp (mMth (mVar 5) (aCons (mIf (tB (m2 (m2 (m2 (mVar 4) (mVar 6) (lift2 1 addP)) (mC (.int 2)) (lift2 1 modP)) (mC (.int 0)) (lift2 3 eqP))) (mVar 8) (mCall (aCons (mVar 8) (aNil)) (sized 1 φ_negative_polys))) (aNil)) appendG))
    (sNil)))))
    (sSeq (sExp (mMth (mVar 3) (aCons (mL (aCons (mVar 5) (aNil)) (gL1 (lift1 1 tupP))) (aNil)) appendG))
    (sNil)))))
    (sSeq (sRet (mL (aCons (mVar 3) (aNil)) (gL1 (lift1 1 tupP))))
    (sNil))))))
def φ_partner : List D → M D := fnDen N_partner m_partner
def N_times_minors : List Str := ["one", "other", "found", "row", "line", "place", "worth", "left", "right"]
def m_times_minors : MS :=
    sSeq (sAsg (.nm 2) (mL (aNil) gMutD))
    (sSeq (sFor (iSeq (mVar 0)) (.nm 3) (sSeq (sAsg (.nm 4) (mL (aNil) gMutD))
    (sSeq (sFor (iArgs (aCons (mL (aCons (m2 (mVar 1) (mC (.int 0)) ixG) (aNil)) (gL1 lenG)) (aNil)) rng1) (.nm 5) (sSeq (sAsg (.nm 6) (mL (aNil) gTupD))
    (sSeq (sFor (iArgs (aCons (mVar 3) (aCons (mVar 1) (aNil))) zip2) (.tp (.cons (.nm 7) (.cons (.nm 8) .nil))) (sSeq (sAsg (.nm 6) (mCall (aCons (mVar 6) (aCons (mCall (aCons (mVar 7) (aCons (m2 (mVar 8) (mVar 5) ixG) (aNil))) (sized 2 φ_multiply_polys)) (aNil))) (sized 2 φ_add_polys)))
    (sNil)))
    (sSeq (sExp (mMth (mVar 4) (aCons (mVar 6) (aNil)) appendG))
    (sNil)))))
    (sSeq (sExp (mMth (mVar 2) (aCons (mL (aCons (mVar 4) (aNil)) (gL1 (lift1 1 tupP))) (aNil)) appendG))
    (sNil)))))
    (sSeq (sRet (mL (aCons (mVar 2) (aNil)) (gL1 (lift1 1 tupP))))
    (sNil)))
def φ_times_minors : List D → M D := fnDen N_times_minors m_times_minors
def N__law_pick : List Str := ["tape", "row"]
def m__law_pick : MS :=
    sSeq (sRet (m2 (mVar 1) (mCall (aCons (mVar 0) (aCons (mL (aCons (mVar 1) (aNil)) (gL1 lenG)) (aNil))) (sized 2 φ__law_draw)) ixG))
    (sNil)
def φ__law_pick : List D → M D := fnDen N__law_pick m__law_pick
def N__law_product : List Str := ["one", "other", "pairs", "item", "number", "mate", "factor", "k"]
def m__law_product : MS :=
    sSeq (sAsg (.nm 2) (mL (aNil) gMutD))
    (sSeq (sFor (iSeq (mVar 0)) (.tp (.cons (.nm 3) (.cons (.nm 4) .nil))) (sSeq (sFor (iSeq (mVar 1)) (.tp (.cons (.nm 5) (.cons (.nm 6) .nil))) (sSeq (sExp (mMth (mVar 2) (aCons (mL (aCons (mL (aCons (mComp false (iArgs (aCons (mL (aCons (mVar 3) (aNil)) (gL1 lenG)) (aNil)) rng1) (.nm 7) [7] (tTr) (m2 (m2 (mVar 3) (mVar 7) ixG) (m2 (mVar 5) (mVar 7) ixG) (lift2 1 addP))) (aNil)) (gL1 (lift1 1 tupP))) (aCons (mCall (aCons (mVar 4) (aCons (mVar 6) (aNil))) (sized 2 φ__law_by)) (aNil))) gTupD) (aNil)) appendG))
    (sNil)))
    (sNil)))
    (sSeq (sRet (mCall (aCons (mVar 2) (aNil)) (sized 1 φ__law_gather)))
    (sNil)))
def φ__law_product : List D → M D := fnDen N__law_product m__law_product
def N__law_number : List Str := ["count", "number"]
def m__law_number : MS :=
    sSeq (sRet (mIf (tB (m2 (m2 (mVar 1) (mC (.int 0)) ixG) (mC (.int 0)) (lift2 3 neP))) (mL (aCons (mL (aCons (m2 (mL (aCons (mC (.int 0)) (aNil)) gTupD) (mVar 0) (lift2 1 mulP)) (aCons (mVar 1) (aNil))) gTupD) (aNil)) gTupD) (mL (aNil) gTupD)))
    (sNil)
def φ__law_number : List D → M D := fnDen N__law_number m__law_number
def N__law_whole : List Str := ["factors", "polys", "found", "k"]
def m__law_whole : MS :=
    sSeq (sAsg (.nm 2) (mL (aNil) gTupD))
    (sSeq (sFor (iArgs (aCons (mL (aCons (mVar 1) (aNil)) (gL1 lenG)) (aNil)) rng1) (.nm 3) (sSeq (sAsg (.nm 2) (mCall (aCons (mVar 2) (aCons (mCall (aCons (m2 (mVar 0) (mVar 3) ixG) (aCons (m2 (mVar 1) (mVar 3) ixG) (aNil))) (sized 2 φ__law_product)) (aNil))) (sized 2 φ__law_total)))
    (sNil)))
    (sSeq (sRet (mVar 2))
    (sNil)))
def φ__law_whole : List D → M D := fnDen N__law_whole m__law_whole
def N__law_table : List Str := ["tape", "height", "width", "count", "j", "k"]
def m__law_table : MS :=
    sSeq (sRet (mL (aCons (mComp false (iArgs (aCons (mVar 1) (aNil)) rng1) (.nm 4) [4] (tTr) (mL (aCons (mComp false (iArgs (aCons (mVar 2) (aNil)) rng1) (.nm 5) [5] (tTr) (mCall (aCons (mVar 0) (aCons (mVar 3) (aCons (mC (.int 1)) (aCons (mC (.int 2)) (aNil))))) (sized 4 φ__law_poly))) (aNil)) (gL1 (lift1 1 tupP)))) (aNil)) (gL1 (lift1 1 tupP))))
    (sNil)
def φ__law_table : List D → M D := fnDen N__law_table m__law_table
def N__law_determinant : List Str := ["rows", "count", "orders", "line", "size", "found", "longer", "row", "sign", "part", "column", "turns", "mate"]
def m__law_determinant : MS :=
    sSeq (sPar [4, 5] (aCons (mL (aCons (mVar 0) (aNil)) (gL1 lenG)) (aCons (mL (aNil) gTupD) (aNil))))
    (sSeq (sAsg (.nm 2) (mL (aCons (mL (aCons (mL (aNil) gTupD) (aCons (mC (.int 1)) (aNil))) gTupD) (aNil)) gLstD))
    (sSeq (sFor (iArgs (aCons (mVar 4) (aNil)) rng1) (.nm 3) (sSeq (sAsg (.nm 6) (mL (aNil) gMutD))
    (sSeq (sFor (iSeq (mVar 2)) (.tp (.cons (.nm 7) (.cons (.nm 8) .nil))) (sSeq (sFor (iArgs (aCons (mVar 4) (aNil)) rng1) (.nm 10) (sSeq (sIf (tB (m2 (mVar 10) (mVar 7) (lift2 3 (inP true)))) (sSeq (sAsg (.nm 11) (mL (aCons (mCompV false 7 (.nm 12) [12] (tB (m2 (mVar 12) (mVar 10) (lift2 3 gtP))) (mVar 12)) (aNil)) (gL1 lenG)))
    (sSeq (sExp (mMth (mVar 6) (aCons (mL (aCons (m2 (mVar 7) (mL (aCons (mVar 10) (aNil)) gTupD) (lift2 1 addP)) (aCons (mIf (tB (m2 (m2 (mVar 11) (mC (.int 2)) (lift2 1 modP)) (mC (.int 0)) (lift2 3 eqP))) (mVar 8) (m1 (mVar 8) (lift1 1 negP))) (aNil))) gTupD) (aNil)) appendG))
    (sNil))) (sNil))
    (sNil)))
    (sNil)))
    (sSeq (sAsg (.nm 2) (mVar 6))
    (sNil)))))
    (sSeq (sFor (iSeq (mVar 2)) (.tp (.cons (.nm 7) (.cons (.nm 8) .nil))) (sSeq (sAsg (.nm 9) (mCall (aCons (mVar 1) (aCons (mL (aCons (mVar 8) (aCons (mC (.int 1)) (aNil))) gTupD) (aNil))) (sized 2 φ__law_number)))
    (sSeq (sFor (iArgs (aCons (mVar 4) (aNil)) rng1) (.nm 3) (sSeq (sAsg (.nm 9) (mCall (aCons (mVar 9) (aCons (m2 (m2 (mVar 0) (mVar 3) ixG) (m2 (mVar 7) (mVar 3) ixG) ixG) (aNil))) (sized 2 φ__law_product)))
    (sNil)))
    (sSeq (sAsg (.nm 5) (mCall (aCons (mVar 5) (aCons (mVar 9) (aNil))) (sized 2 φ__law_total)))
    (sNil)))))
    (sSeq (sRet (mVar 5))
    (sNil)))))
def φ__law_determinant : List D → M D := fnDen N__law_determinant m__law_determinant
def N__law_times : List Str := ["one", "other", "found", "row", "line", "k", "mate"]
def m__law_times : MS :=
    sSeq (sAsg (.nm 2) (mL (aNil) gMutD))
    (sSeq (sFor (iSeq (mVar 0)) (.nm 3) (sSeq (sAsg (.nm 4) (mL (aNil) gMutD))
    (sSeq (sFor (iArgs (aCons (mL (aCons (m2 (mVar 1) (mC (.int 0)) ixG) (aNil)) (gL1 lenG)) (aNil)) rng1) (.nm 5) (sSeq (sExp (mMth (mVar 4) (aCons (mCall (aCons (mVar 3) (aCons (mCompV false 1 (.nm 6) [6] (tTr) (m2 (mVar 6) (mVar 5) ixG)) (aNil))) (sized 2 φ__law_whole)) (aNil)) appendG))
    (sNil)))
    (sSeq (sExp (mMth (mVar 2) (aCons (mL (aCons (mVar 4) (aNil)) (gL1 (lift1 1 tupP))) (aNil)) appendG))
    (sNil)))))
    (sSeq (sRet (mL (aCons (mVar 2) (aNil)) (gL1 (lift1 1 tupP))))
    (sNil)))
def φ__law_times : List D → M D := fnDen N__law_times m__law_times
def N_unknown : List Str := ["count", "index", "k"]
def m_unknown : MS :=
    sSeq (sRet (mL (aCons (mComp false (iArgs (aCons (mVar 0) (aNil)) rng1) (.nm 2) [2] (tTr) (mIf (tB (m2 (mVar 2) (mVar 1) (lift2 3 eqP))) (mC (.int 1)) (mC (.int 0)))) (aNil)) (gL1 (lift1 1 tupP))))
    (sNil)
def φ_unknown : List D → M D := fnDen N_unknown m_unknown
def N_all_of_degree : List Str := ["count", "size", "rows", "index", "longer", "row", "left", "first", "item"]
def m_all_of_degree : MS :=
    sSeq (sAsg (.nm 2) (mL (aCons (mL (aCons (mL (aNil) gTupD) (aCons (mVar 1) (aNil))) gTupD) (aNil)) gLstD))
    (sSeq (sFor (iArgs (aCons (mVar 0) (aNil)) rng1) (.nm 3) (sSeq (sAsg (.nm 4) (mL (aNil) gMutD))
    (sSeq (sFor (iSeq (mVar 2)) (.tp (.cons (.nm 5) (.cons (.nm 6) .nil))) (sSeq (sAsg (.nm 7) (mIf (tB (m2 (mVar 3) (m2 (mVar 0) (mC (.int 1)) (lift2 1 subP)) (lift2 3 ltP))) (mC (.int 0)) (mVar 6)))
    (sSeq (sExp (mMth (mVar 4) (aCons (mComp false (iArgs (aCons (mVar 6) (aCons (m2 (mVar 7) (mC (.int 1)) (lift2 1 subP)) (aCons (m1 (mC (.int 1)) (lift1 1 negP)) (aNil)))) rng3) (.nm 8) [8] (tTr) (mL (aCons (m2 (mVar 5) (mL (aCons (mVar 8) (aNil)) gTupD) (lift2 1 addP)) (aCons (m2 (mVar 6) (mVar 8) (lift2 1 subP)) (aNil))) gTupD)) (aNil)) extendG))
    (sNil))))
    (sSeq (sAsg (.nm 2) (mVar 4))
    (sNil)))))
    (sSeq (sRet (mL (aCons (mCompV false 2 (.tp (.cons (.nm 5) (.cons (.nm 6) .nil))) [5, 6] (tB (m2 (mVar 6) (mC (.int 0)) (lift2 3 eqP))) (mVar 5)) (aNil)) (gL1 (lift1 1 tupP))))
    (sNil)))
def φ_all_of_degree : List D → M D := fnDen N_all_of_degree m_all_of_degree
def N_variable : List Str := ["count", "index"]
def m_variable : MS :=
    sSeq (sRet (mL (aCons (mL (aCons (mCall (aCons (mVar 0) (aCons (mVar 1) (aNil))) (sized 2 φ_unknown)) (aCons (mC (mkD [1, 1])) (aNil))) gTupD) (aNil)) gTupD))
    (sNil)
def φ_variable : List D → M D := fnDen N_variable m_variable
def N_permuted : List Str := ["one", "order", "item", "number", "k"]
def m_permuted : MS :=
    sSeq (sRet (mCall (aCons (mCompV false 0 (.tp (.cons (.nm 2) (.cons (.nm 3) .nil))) [2, 3] (tTr) (mL (aCons (mL (aCons (mCompV false 1 (.nm 4) [4] (tTr) (m2 (mVar 2) (mVar 4) ixG)) (aNil)) (gL1 (lift1 1 tupP))) (aCons (mVar 3) (aNil))) gTupD)) (aNil)) (sized 1 φ_gathered)))
    (sNil)
def φ_permuted : List D → M D := fnDen N_permuted m_permuted
def N_first_sums : List Str := ["count", "found", "size", "monomials", "one"]
def m_first_sums : MS :=
    sSeq (sAsg (.nm 1) (mL (aNil) gMutD))
    (sSeq (sFor (iArgs (aCons (mC (.int 1)) (aCons (m2 (mVar 0) (mC (.int 1)) (lift2 1 addP)) (aNil))) rng2) (.nm 2) (sSeq (sAsg (.nm 3) (mComp false (iSeq (mCall (aCons (mVar 0) (aCons (mVar 2) (aNil))) (sized 2 φ_all_of_degree))) (.nm 4) [4] (tB (m2 (mL (aCons (mVar 4) (aNil)) (gL1 (lift1 1 (best1 true)))) (mC (.int 2)) (lift2 3 ltP))) (mVar 4)))
    (sSeq (sExp (mMth (mVar 1) (aCons (mCall (aCons (mCompV false 3 (.nm 4) [4] (tTr) (mL (aCons (mVar 4) (aCons (mC (mkD [1, 1])) (aNil))) gTupD)) (aNil)) (sized 1 φ_gathered)) (aNil)) appendG))
    (sNil))))
    (sSeq (sRet (mL (aCons (mVar 1) (aNil)) (gL1 (lift1 1 tupP))))
    (sNil)))
def φ_first_sums : List D → M D := fnDen N_first_sums m_first_sums
def N_power_sums : List Str := ["count", "most", "found", "size", "monomials", "index", "k", "one"]
def m_power_sums : MS :=
    sSeq (sAsg (.nm 2) (mL (aNil) gMutD))
    (sSeq (sFor (iArgs (aCons (mC (.int 1)) (aCons (m2 (mVar 1) (mC (.int 1)) (lift2 1 addP)) (aNil))) rng2) (.nm 3) (sSeq (sAsg (.nm 4) (mComp false (iArgs (aCons (mVar 0) (aNil)) rng1) (.nm 5) [5] (tTr) (mL (aCons (mComp false (iArgs (aCons (mVar 0) (aNil)) rng1) (.nm 6) [6] (tTr) (mIf (tB (m2 (mVar 6) (mVar 5) (lift2 3 eqP))) (mVar 3) (mC (.int 0)))) (aNil)) (gL1 (lift1 1 tupP)))))
    (sSeq (sExp (mMth (mVar 2) (aCons (mCall (aCons (mCompV false 4 (.nm 7) [7] (tTr) (mL (aCons (mVar 7) (aCons (mC (mkD [1, 1])) (aNil))) gTupD)) (aNil)) (sized 1 φ_gathered)) (aNil)) appendG))
    (sNil))))
    (sSeq (sRet (mL (aCons (mVar 2) (aNil)) (gL1 (lift1 1 tupP))))
    (sNil)))
def φ_power_sums : List D → M D := fnDen N_power_sums m_power_sums
def N_all_sums : List Str := ["count", "most", "size", "one"]
def m_all_sums : MS :=
    sSeq (sRet (mL (aCons (mComp false (iArgs (aCons (mC (.int 1)) (aCons (m2 (mVar 1) (mC (.int 1)) (lift2 1 addP)) (aNil))) rng2) (.nm 2) [2] (tTr) (mCall (aCons (mComp false (iSeq (mCall (aCons (mVar 0) (aCons (mVar 2) (aNil))) (sized 2 φ_all_of_degree))) (.nm 3) [3] (tTr) (mL (aCons (mVar 3) (aCons (mC (mkD [1, 1])) (aNil))) gTupD)) (aNil)) (sized 1 φ_gathered))) (aNil)) (gL1 (lift1 1 tupP))))
    (sNil)
def φ_all_sums : List D → M D := fnDen N_all_sums m_all_sums
def N_is_kept : List Str := ["poly", "count", "place", "order"]
def m_is_kept : MS :=
    sSeq (sExp (mCall (aCons (mVar 0) (aCons (mVar 1) (aNil))) (sized 2 φ_check_poly)))
    (sSeq (sFor (iArgs (aCons (m2 (mVar 1) (mC (.int 1)) (lift2 1 subP)) (aNil)) rng1) (.nm 2) (sSeq (sAsg (.nm 3) (mL (aCons (mVar 1) (aNil)) (rngMut 1)))
    (sSeq (sSwp (aCons (m2 (mVar 3) (m2 (mVar 2) (mC (.int 1)) (lift2 1 addP)) ixG) (aCons (m2 (mVar 3) (mVar 2) ixG) (aNil))) (mVar 3) (mVar 2) (mVar 3) (m2 (mVar 2) (mC (.int 1)) (lift2 1 addP)))
    (sSeq (sIf (tB (m2 (mCall (aCons (mVar 0) (aCons (mVar 3) (aNil))) (sized 2 φ_permuted)) (mVar 0) (lift2 3 neP))) (sSeq (sRet (mC (.bool false)))
    (sNil)) (sNil))
    (sNil)))))
    (sSeq (sRet (mC (.bool true)))
    (sNil)))
def φ_is_kept : List D → M D := fnDen N_is_kept m_is_kept
def N_newton_row : List Str := ["count", "most", "found", "size", "now", "step", "last", "part"]
def m_newton_row : MS :=
    sSeq (sAsg (.nm 2) (mL (aNil) gMutD))
    (sSeq (sFor (iArgs (aCons (mC (.int 1)) (aCons (m2 (mVar 1) (mC (.int 1)) (lift2 1 addP)) (aNil))) rng2) (.nm 3) (sSeq (sAsg (.nm 4) (mL (aNil) gTupD))
    (sSeq (sFor (iArgs (aCons (mC (.int 1)) (aCons (mVar 3) (aNil))) rng2) (.nm 5) (sSeq (sIf (tB (m2 (mVar 5) (mVar 0) (lift2 3 leP))) (sSeq (sAsg (.nm 7) (mCall (aCons (mCall (aCons (mVar 0) (aCons (m2 (mVar 5) (mC (.int 1)) (lift2 1 subP)) (aNil))) (sized 2 φ_variable)) (aCons (m2 (mVar 2) (m2 (m2 (mVar 3) (mVar 5) (lift2 1 subP)) (mC (.int 1)) (lift2 1 subP)) ixG) (aNil))) (sized 2 φ_multiply_polys)))
    (sSeq (sAsg (.nm 4) (mIf (tB (m2 (m2 (mVar 5) (mC (.int 2)) (lift2 1 modP)) (mC (.int 1)) (lift2 3 eqP))) (mCall (aCons (mVar 4) (aCons (mVar 7) (aNil))) (sized 2 φ_add_polys)) (mCall (aCons (mVar 4) (aCons (mVar 7) (aNil))) (sized 2 φ_subtract))))
    (sNil))) (sNil))
    (sNil)))
    (sSeq (sIf (tB (m2 (mVar 3) (mVar 0) (lift2 3 leP))) (sSeq (sAsg (.nm 6) (mCall (aCons (mCall (aCons (mVar 3) (aNil)) (sized 1 φ_of)) (aCons (mCall (aCons (mVar 0) (aCons (m2 (mVar 3) (mC (.int 1)) (lift2 1 subP)) (aNil))) (sized 2 φ_variable)) (aNil))) (sized 2 φ_scaled)))
    (sSeq (sAsg (.nm 4) (mIf (tB (m2 (m2 (mVar 3) (mC (.int 2)) (lift2 1 modP)) (mC (.int 1)) (lift2 3 eqP))) (mCall (aCons (mVar 4) (aCons (mVar 6) (aNil))) (sized 2 φ_add_polys)) (mCall (aCons (mVar 4) (aCons (mVar 6) (aNil))) (sized 2 φ_subtract))))
    (sNil))) (sNil))
    (sSeq (sExp (mMth (mVar 2) (aCons (mVar 4) (aNil)) appendG))
    (sNil))))))
    (sSeq (sRet (mL (aCons (mVar 2) (aNil)) (gL1 (lift1 1 tupP))))
    (sNil)))
def φ_newton_row : List D → M D := fnDen N_newton_row m_newton_row
def N__law_less : List Str := ["one", "other", "item", "number"]
def m__law_less : MS :=
    sSeq (sRet (mCall (aCons (m2 (mVar 0) (mL (aCons (mCompV false 1 (.tp (.cons (.nm 2) (.cons (.nm 3) .nil))) [2, 3] (tTr) (mL (aCons (mVar 2) (aCons (mL (aCons (m1 (m2 (mVar 3) (mC (.int 0)) ixG) (lift1 1 negP)) (aCons (m2 (mVar 3) (mC (.int 1)) ixG) (aNil))) gTupD) (aNil))) gTupD)) (aNil)) (gL1 (lift1 1 tupP))) (lift2 1 addP)) (aNil)) (sized 1 φ__law_gather)))
    (sNil)
def φ__law_less : List D → M D := fnDen N__law_less m__law_less
def N__law_raised : List Str := ["one", "exponent", "count", "found", "turn"]
def m__law_raised : MS :=
    sSeq (sAsg (.nm 3) (mCall (aCons (mVar 2) (aCons (mL (aCons (mC (.int 1)) (aCons (mC (.int 1)) (aNil))) gTupD) (aNil))) (sized 2 φ__law_number)))
    (sSeq (sFor (iArgs (aCons (mVar 1) (aNil)) rng1) (.nm 4) (sSeq (sAsg (.nm 3) (mCall (aCons (mVar 3) (aCons (mVar 0) (aNil))) (sized 2 φ__law_product)))
    (sNil)))
    (sSeq (sRet (mVar 3))
    (sNil)))
def φ__law_raised : List D → M D := fnDen N__law_raised m__law_raised
def N__law_put : List Str := ["one", "polys", "count", "found", "item", "number", "part", "k"]
def m__law_put : MS :=
    sSeq (sAsg (.nm 3) (mL (aNil) gTupD))
    (sSeq (sFor (iSeq (mVar 0)) (.tp (.cons (.nm 4) (.cons (.nm 5) .nil))) (sSeq (sAsg (.nm 6) (mCall (aCons (mVar 2) (aCons (mVar 5) (aNil))) (sized 2 φ__law_number)))
    (sSeq (sFor (iArgs (aCons (mL (aCons (mVar 4) (aNil)) (gL1 lenG)) (aNil)) rng1) (.nm 7) (sSeq (sAsg (.nm 6) (mCall (aCons (mVar 6) (aCons (mCall (aCons (m2 (mVar 1) (mVar 7) ixG) (aCons (m2 (mVar 4) (mVar 7) ixG) (aCons (mVar 2) (aNil)))) (sized 3 φ__law_raised)) (aNil))) (sized 2 φ__law_product)))
    (sNil)))
    (sSeq (sAsg (.nm 3) (mCall (aCons (mVar 3) (aCons (mVar 6) (aNil))) (sized 2 φ__law_total)))
    (sNil)))))
    (sSeq (sRet (mVar 3))
    (sNil)))
def φ__law_put : List D → M D := fnDen N__law_put m__law_put
def N__law_moved : List Str := ["one", "order", "item", "number", "k"]
def m__law_moved : MS :=
    sSeq (sRet (mCall (aCons (mCompV false 0 (.tp (.cons (.nm 2) (.cons (.nm 3) .nil))) [2, 3] (tTr) (mL (aCons (mL (aCons (mCompV false 1 (.nm 4) [4] (tTr) (m2 (mVar 2) (mVar 4) ixG)) (aNil)) (gL1 (lift1 1 tupP))) (aCons (mVar 3) (aNil))) gTupD)) (aNil)) (sized 1 φ__law_gather)))
    (sNil)
def φ__law_moved : List D → M D := fnDen N__law_moved m__law_moved
def N__law_monomials : List Str := ["count", "size", "found", "first", "rest"]
def m__law_monomials (self : List D → M D) : MS :=
    sSeq (sIf (tB (m2 (mVar 0) (mC (.int 0)) (lift2 3 eqP))) (sSeq (sRet (mIf (tB (m2 (mVar 1) (mC (.int 0)) (lift2 3 eqP))) (mL (aCons (mL (aNil) gTupD) (aNil)) gLstD) (mL (aNil) gLstD)))
    (sNil)) (sNil))
    (sSeq (sAsg (.nm 2) (mL (aNil) gLstD))
    (sSeq (sFor (iArgs (aCons (mVar 1) (aCons (m1 (mC (.int 1)) (lift1 1 negP)) (aCons (m1 (mC (.int 1)) (lift1 1 negP)) (aNil)))) rng3) (.nm 3) (sSeq (sAsg (.nm 2) (m2 (mVar 2) (mComp false (iSeq (mCall (aCons (m2 (mVar 0) (mC (.int 1)) (lift2 1 subP)) (aCons (m2 (mVar 1) (mVar 3) (lift2 1 subP)) (aNil))) (sized 2 self))) (.nm 4) [4] (tTr) (m2 (mL (aCons (mVar 3) (aNil)) gTupD) (mVar 4) (lift2 1 addP))) (lift2 1 addP)))
    (sNil)))
    (sSeq (sRet (mVar 2))
    (sNil))))
def φ__law_monomials : Nat → List D → M D
  | 0 => fun _ => bad
  | n + 1 => fnDen N__law_monomials (m__law_monomials (φ__law_monomials n))
def N__law_is_poly : List Str := ["value", "count", "pair", "item", "number"]
def m__law_is_poly : MS :=
    sSeq (sIf (tOrr (tNt (tV (m1 (mVar 0) (lift1 3 (isiP .tup))))) (tNt (tV (mL (aCons (mCompV false 0 (.nm 2) [2] (tTr) (mAnd (m1 (mVar 2) (lift1 3 (isiP .tup))) (m2 (mL (aCons (mVar 2) (aNil)) (gL1 lenG)) (mC (.int 2)) (lift2 3 eqP)))) (aNil)) (gL1 (lift1 1 allP)))))) (sSeq (sRet (mC (.bool false)))
    (sNil)) (sNil))
    (sSeq (sRet (mAnd (mCall (aCons (mVar 0) (aCons (mCall (aCons (mVar 0) (aNil)) (sized 1 φ__law_gather)) (aNil))) (sized 2 (φ__law_same 9))) (mL (aCons (mCompV false 0 (.tp (.cons (.nm 3) (.cons (.nm 4) .nil))) [3, 4] (tTr) (mAnd (m2 (mL (aCons (mVar 3) (aNil)) (gL1 lenG)) (mVar 1) (lift2 3 eqP)) (m2 (mL (aCons (m2 (mL (aCons (mC (.int 0)) (aNil)) gTupD) (mVar 3) (lift2 1 addP)) (aNil)) (gL1 (lift1 1 (best1 false)))) (mC (.int 0)) (lift2 3 geP)))) (aNil)) (gL1 (lift1 1 allP)))))
    (sNil))
def φ__law_is_poly : List D → M D := fnDen N__law_is_poly m__law_is_poly
def N__law_orders : List Str := ["count", "found", "place", "longer", "row", "k"]
def m__law_orders : MS :=
    sSeq (sAsg (.nm 1) (mL (aCons (mL (aNil) gLstD) (aNil)) gLstD))
    (sSeq (sFor (iArgs (aCons (mVar 0) (aNil)) rng1) (.nm 2) (sSeq (sAsg (.nm 3) (mL (aNil) gLstD))
    (sSeq (sFor (iSeq (mVar 1)) (.nm 4) (sSeq (sAsg (.nm 3) (m2 (mVar 3) (mComp false (iArgs (aCons (m2 (mL (aCons (mVar 4) (aNil)) (gL1 lenG)) (mC (.int 1)) (lift2 1 addP)) (aNil)) rng1) (.nm 5) [5] (tTr) (m2 (m2 (mSl (mVar 4) (oNone) (oSome (mVar 5))) (mL (aCons (mVar 2) (aNil)) gLstD) (lift2 1 addP)) (mSl (mVar 4) (oSome (mVar 5)) (oNone)) (lift2 1 addP))) (lift2 1 addP)))
    (sNil)))
    (sSeq (sAsg (.nm 1) (mVar 3))
    (sNil)))))
    (sSeq (sRet (mVar 1))
    (sNil)))
def φ__law_orders : List D → M D := fnDen N__law_orders m__law_orders
def N_one_of : List Str := ["count"]
def m_one_of : MS :=
    sSeq (sRet (mCall (aCons (mVar 0) (aCons (mC (mkD [1, 1])) (aNil))) (sized 2 φ_constant)))
    (sNil)
def φ_one_of : List D → M D := fnDen N_one_of m_one_of
def N_power : List Str := ["one", "exponent", "count", "found", "_"]
def m_power : MS :=
    sSeq (sAsg (.nm 3) (mCall (aCons (mVar 2) (aNil)) (sized 1 φ_one_of)))
    (sSeq (sFor (iArgs (aCons (mVar 1) (aNil)) rng1) (.nm 4) (sSeq (sAsg (.nm 3) (mCall (aCons (mVar 3) (aCons (mVar 0) (aNil))) (sized 2 φ_multiply_polys)))
    (sNil)))
    (sSeq (sRet (mVar 3))
    (sNil)))
def φ_power : List D → M D := fnDen N_power m_power
def N_replaced : List Str := ["one", "polys", "count", "found", "item", "number", "part", "exponent", "poly"]
def m_replaced : MS :=
    sSeq (sAsg (.nm 3) (mL (aNil) gTupD))
    (sSeq (sFor (iSeq (mVar 0)) (.tp (.cons (.nm 4) (.cons (.nm 5) .nil))) (sSeq (sAsg (.nm 6) (mCall (aCons (mVar 2) (aCons (mVar 5) (aNil))) (sized 2 φ_constant)))
    (sSeq (sFor (iArgs (aCons (mVar 4) (aCons (mVar 1) (aNil))) zip2) (.tp (.cons (.nm 7) (.cons (.nm 8) .nil))) (sSeq (sAsg (.nm 6) (mCall (aCons (mVar 6) (aCons (mCall (aCons (mVar 8) (aCons (mVar 7) (aCons (mVar 2) (aNil)))) (sized 3 φ_power)) (aNil))) (sized 2 φ_multiply_polys)))
    (sNil)))
    (sSeq (sAsg (.nm 3) (mCall (aCons (mVar 3) (aCons (mVar 6) (aNil))) (sized 2 φ_add_polys)))
    (sNil)))))
    (sSeq (sRet (mVar 3))
    (sNil)))
def φ_replaced : List D → M D := fnDen N_replaced m_replaced
def N_cycles : List Str := ["row", "left", "found", "length", "now"]
def m_cycles : MS :=
    sSeq (sPar [1, 2] (aCons (mL (aCons (mL (aCons (mVar 0) (aNil)) (gL1 lenG)) (aNil)) (rngMut 1)) (aCons (mL (aNil) gMutD) (aNil))))
    (sSeq (sWhile (tB (m2 (mVar 1) (mL (aNil) gLstD) (lift2 3 neP))) (sSeq (sPar [3, 4] (aCons (mC (.int 0)) (aCons (m2 (mVar 1) (mC (.int 0)) ixG) (aNil))))
    (sSeq (sWhile (tB (m2 (mVar 4) (mVar 1) (lift2 3 (inP false)))) (sSeq (sExp (mMth (mVar 1) (aCons (mVar 4) (aNil)) removeG))
    (sSeq (sAug 3 (lift2 1 addI) (mC (.int 1)))
    (sSeq (sAsg (.nm 4) (m2 (mVar 0) (mVar 4) ixG))
    (sNil)))) fuel)
    (sSeq (sExp (mMth (mVar 2) (aCons (mVar 3) (aNil)) appendG))
    (sNil)))) fuel)
    (sSeq (sRet (mL (aCons (mL (aCons (mVar 2) (aNil)) (gL1 sortG)) (aNil)) (gL1 (lift1 1 tupP))))
    (sNil)))
def φ_cycles : List D → M D := fnDen N_cycles m_cycles
def N_vandermonde : List Str := ["count", "found", "one", "other"]
def m_vandermonde : MS :=
    sSeq (sAsg (.nm 1) (mCall (aCons (mVar 0) (aCons (mC (mkD [1, 1])) (aNil))) (sized 2 φ_constant)))
    (sSeq (sFor (iArgs (aCons (mVar 0) (aNil)) rng1) (.nm 2) (sSeq (sFor (iArgs (aCons (m2 (mVar 2) (mC (.int 1)) (lift2 1 addP)) (aCons (mVar 0) (aNil))) rng2) (.nm 3) (sSeq (sAsg (.nm 1) (mCall (aCons (mVar 1) (aCons (mCall (aCons (mCall (aCons (mVar 0) (aCons (mVar 2) (aNil))) (sized 2 φ_variable)) (aCons (mCall (aCons (mVar 0) (aCons (mVar 3) (aNil))) (sized 2 φ_variable)) (aNil))) (sized 2 φ_subtract)) (aNil))) (sized 2 φ_multiply_polys)))
    (sNil)))
    (sNil)))
    (sSeq (sRet (mVar 1))
    (sNil)))
def φ_vandermonde : List D → M D := fnDen N_vandermonde m_vandermonde
def N__law_letter : List Str := ["count", "index", "k"]
def m__law_letter : MS :=
    sSeq (sRet (mL (aCons (mL (aCons (mL (aCons (mComp false (iArgs (aCons (mVar 0) (aNil)) rng1) (.nm 2) [2] (tTr) (mIf (tB (m2 (mVar 2) (mVar 1) (lift2 3 eqP))) (mC (.int 1)) (mC (.int 0)))) (aNil)) (gL1 (lift1 1 tupP))) (aCons (mL (aCons (mC (.int 1)) (aCons (mC (.int 1)) (aNil))) gTupD) (aNil))) gTupD) (aNil)) gTupD))
    (sNil)
def φ__law_letter : List D → M D := fnDen N__law_letter m__law_letter
def N__law_order : List Str := ["tape", "count", "found", "place", "at"]
def m__law_order : MS :=
    sSeq (sAsg (.nm 2) (mL (aNil) gLstD))
    (sSeq (sFor (iArgs (aCons (mVar 1) (aNil)) rng1) (.nm 3) (sSeq (sAsg (.nm 4) (mCall (aCons (mVar 0) (aCons (m2 (mVar 3) (mC (.int 1)) (lift2 1 addP)) (aNil))) (sized 2 φ__law_draw)))
    (sSeq (sAsg (.nm 2) (m2 (m2 (mSl (mVar 2) (oNone) (oSome (mVar 4))) (mL (aCons (mVar 3) (aNil)) gLstD) (lift2 1 addP)) (mSl (mVar 2) (oSome (mVar 4)) (oNone)) (lift2 1 addP)))
    (sNil))))
    (sSeq (sRet (mL (aCons (mVar 2) (aNil)) (gL1 (lift1 1 tupP))))
    (sNil)))
def φ__law_order : List D → M D := fnDen N__law_order m__law_order
def N__law_cycles : List Str := ["order", "left", "found", "now", "start", "length"]
def m__law_cycles : MS :=
    sSeq (sPar [1, 2] (aCons (mL (aCons (mL (aCons (mVar 0) (aNil)) (gL1 lenG)) (aNil)) (rngMut 1)) (aCons (mL (aNil) gMutD) (aNil))))
    (sSeq (sWhile (tB (m2 (mL (aCons (mVar 1) (aNil)) (gL1 lenG)) (mC (.int 0)) (lift2 3 gtP))) (sSeq (sPar [4, 5] (aCons (m2 (mVar 1) (mC (.int 0)) ixG) (aCons (mC (.int 1)) (aNil))))
    (sSeq (sAsg (.nm 3) (m2 (mVar 0) (mVar 4) ixG))
    (sSeq (sWhile (tB (m2 (mVar 3) (mVar 4) (lift2 3 neP))) (sSeq (sExp (mMth (mVar 1) (aCons (mVar 3) (aNil)) removeG))
    (sSeq (sPar [5, 3] (aCons (m2 (mVar 5) (mC (.int 1)) (lift2 1 addP)) (aCons (m2 (mVar 0) (mVar 3) ixG) (aNil))))
    (sNil))) fuel)
    (sSeq (sExp (mMth (mVar 1) (aCons (mVar 4) (aNil)) removeG))
    (sSeq (sExp (mMth (mVar 2) (aCons (mVar 5) (aNil)) appendG))
    (sNil)))))) fuel)
    (sSeq (sRet (mL (aCons (mL (aCons (mVar 2) (aNil)) (gL1 sortG)) (aNil)) (gL1 (lift1 1 tupP))))
    (sNil)))
def φ__law_cycles : List D → M D := fnDen N__law_cycles m__law_cycles
def N_power_of_form : List Str := ["numbers", "size", "count", "form", "index", "number"]
def m_power_of_form : MS :=
    sSeq (sAsg (.nm 3) (mCall (aCons (mComp false (iArgs (aCons (mVar 0) (aNil)) enum1) (.tp (.cons (.nm 4) (.cons (.nm 5) .nil))) [4, 5] (tB (m2 (mVar 5) (mC (mkD [0, 1])) (lift2 3 neP))) (mL (aCons (mCall (aCons (mVar 2) (aCons (mVar 4) (aNil))) (sized 2 φ_unknown)) (aCons (mVar 5) (aNil))) gTupD)) (aNil)) (sized 1 φ_gathered)))
    (sSeq (sRet (mCall (aCons (mVar 3) (aCons (mVar 1) (aCons (mVar 2) (aNil)))) (sized 3 φ_power)))
    (sNil))
def φ_power_of_form : List D → M D := fnDen N_power_of_form m_power_of_form
def N_is_sum_of_powers : List Str := ["poly", "forms", "weights", "size", "count", "found", "numbers", "weight"]
def m_is_sum_of_powers : MS :=
    sSeq (sExp (mCall (aCons (mVar 0) (aCons (mVar 4) (aNil))) (sized 2 φ_check_poly)))
    (sSeq (sAsg (.nm 5) (mL (aNil) gTupD))
    (sSeq (sFor (iArgs (aCons (mVar 1) (aCons (mVar 2) (aNil))) zip2) (.tp (.cons (.nm 6) (.cons (.nm 7) .nil))) (sSeq (sAsg (.nm 5) (mCall (aCons (mVar 5) (aCons (mCall (aCons (mVar 7) (aCons (mCall (aCons (mVar 6) (aCons (mVar 3) (aCons (mVar 4) (aNil)))) (sized 3 φ_power_of_form)) (aNil))) (sized 2 φ_scaled)) (aNil))) (sized 2 φ_add_polys)))
    (sNil)))
    (sSeq (sRet (m2 (mVar 5) (mVar 0) (lift2 3 eqP)))
    (sNil))))
def φ_is_sum_of_powers : List D → M D := fnDen N_is_sum_of_powers m_is_sum_of_powers
def N__law_worth : List Str := ["one", "point", "found", "item", "number", "k", "turn"]
def m__law_worth : MS :=
    sSeq (sAsg (.nm 2) (mL (aCons (mC (.int 0)) (aCons (mC (.int 1)) (aNil))) gTupD))
    (sSeq (sFor (iSeq (mVar 0)) (.tp (.cons (.nm 3) (.cons (.nm 4) .nil))) (sSeq (sFor (iArgs (aCons (mL (aCons (mVar 3) (aNil)) (gL1 lenG)) (aNil)) rng1) (.nm 5) (sSeq (sFor (iArgs (aCons (m2 (mVar 3) (mVar 5) ixG) (aNil)) rng1) (.nm 6) (sSeq (sAsg (.nm 4) (mCall (aCons (mVar 4) (aCons (m2 (mVar 1) (mVar 5) ixG) (aNil))) (sized 2 φ__law_by)))
    (sNil)))
    (sNil)))
    (sSeq (sAsg (.nm 2) (mCall (aCons (mVar 2) (aCons (mVar 4) (aNil))) (sized 2 φ__law_plus)))
    (sNil))))
    (sSeq (sRet (mVar 2))
    (sNil)))
def φ__law_worth : List D → M D := fnDen N__law_worth m__law_worth
def N__law_form : List Str := ["numbers", "k", "j"]
def m__law_form : MS :=
    sSeq (sRet (mCall (aCons (mComp false (iArgs (aCons (mL (aCons (mVar 0) (aNil)) (gL1 lenG)) (aNil)) rng1) (.nm 1) [1] (tTr) (mL (aCons (mL (aCons (mComp false (iArgs (aCons (mL (aCons (mVar 0) (aNil)) (gL1 lenG)) (aNil)) rng1) (.nm 2) [2] (tTr) (mIf (tB (m2 (mVar 2) (mVar 1) (lift2 3 eqP))) (mC (.int 1)) (mC (.int 0)))) (aNil)) (gL1 (lift1 1 tupP))) (aCons (m2 (mVar 0) (mVar 1) ixG) (aNil))) gTupD)) (aNil)) (sized 1 φ__law_gather)))
    (sNil)
def φ__law_form : List D → M D := fnDen N__law_form m__law_form
def N_divide : List Str := ["one", "other"]
def m_divide : MS :=
    sSeq (sIf (tB (m2 (m2 (mVar 1) (mC (.int 0)) ixG) (mC (.int 0)) (lift2 3 eqP))) (sSeq (sRaise 0)
    (sNil)) (sNil))
    (sSeq (sRet (mCall (aCons (m2 (m2 (mVar 0) (mC (.int 0)) ixG) (m2 (mVar 1) (mC (.int 1)) ixG) (lift2 1 mulP)) (aCons (m2 (m2 (mVar 0) (mC (.int 1)) ixG) (m2 (mVar 1) (mC (.int 0)) ixG) (lift2 1 mulP)) (aNil))) (sized 2 φ_make)))
    (sNil))
def φ_divide : List D → M D := fnDen N_divide m_divide
def N_dot : List Str := ["one", "other", "found", "left", "right"]
def m_dot : MS :=
    sSeq (sAsg (.nm 2) (mC (mkD [0, 1])))
    (sSeq (sFor (iArgs (aCons (mVar 0) (aCons (mVar 1) (aNil))) zip2) (.tp (.cons (.nm 3) (.cons (.nm 4) .nil))) (sSeq (sAsg (.nm 2) (mCall (aCons (mVar 2) (aCons (mCall (aCons (mVar 3) (aCons (mVar 4) (aNil))) (sized 2 φ_multiply_ratios)) (aNil))) (sized 2 φ_add_ratios)))
    (sNil)))
    (sSeq (sRet (mVar 2))
    (sNil)))
def φ_dot : List D → M D := fnDen N_dot m_dot
def N_choices : List Str := ["size", "most", "rows", "_", "longer", "row", "first", "item"]
def m_choices : MS :=
    sSeq (sAsg (.nm 2) (mL (aCons (mL (aNil) gTupD) (aNil)) gLstD))
    (sSeq (sFor (iArgs (aCons (mVar 0) (aNil)) rng1) (.nm 3) (sSeq (sAsg (.nm 4) (mL (aNil) gMutD))
    (sSeq (sFor (iSeq (mVar 2)) (.nm 5) (sSeq (sAsg (.nm 6) (mIf (tB (m2 (mVar 5) (mL (aNil) gTupD) (lift2 3 neP))) (m2 (m2 (mVar 5) (m1 (mC (.int 1)) (lift1 1 negP)) ixG) (mC (.int 1)) (lift2 1 addP)) (mC (.int 0))))
    (sSeq (sExp (mMth (mVar 4) (aCons (mComp false (iArgs (aCons (mVar 6) (aCons (mVar 1) (aNil))) rng2) (.nm 7) [7] (tTr) (m2 (mVar 5) (mL (aCons (mVar 7) (aNil)) gTupD) (lift2 1 addP))) (aNil)) extendG))
    (sNil))))
    (sSeq (sAsg (.nm 2) (mVar 4))
    (sNil)))))
    (sSeq (sRet (mL (aCons (mVar 2) (aNil)) (gL1 (lift1 1 tupP))))
    (sNil)))
def φ_choices : List D → M D := fnDen N_choices m_choices
def N_characteristic_minors : List Str := ["rows", "count", "size", "found", "step", "worth", "lines", "part", "line", "column"]
def m_characteristic_minors : MS :=
    sSeq (sExp (mCall (aCons (mVar 0) (aCons (mVar 1) (aNil))) (sized 2 φ_check_table)))
    (sSeq (sAsg (.nm 2) (mL (aCons (mVar 0) (aNil)) (gL1 lenG)))
    (sSeq (sAsg (.nm 3) (mL (aNil) gMutD))
    (sSeq (sFor (iArgs (aCons (m2 (mVar 2) (mC (.int 1)) (lift2 1 addP)) (aNil)) rng1) (.nm 4) (sSeq (sAsg (.nm 5) (mL (aNil) gTupD))
    (sSeq (sFor (iSeq (mCall (aCons (m2 (mVar 2) (mVar 4) (lift2 1 subP)) (aCons (mVar 2) (aNil))) (sized 2 φ_choices))) (.nm 6) (sSeq (sAsg (.nm 7) (mL (aCons (mCompV false 6 (.nm 8) [8] (tTr) (mL (aCons (mCompV false 6 (.nm 9) [9] (tTr) (m2 (m2 (mVar 0) (mVar 8) ixG) (mVar 9) ixG)) (aNil)) (gL1 (lift1 1 tupP)))) (aNil)) (gL1 (lift1 1 tupP))))
    (sSeq (sAsg (.nm 5) (mCall (aCons (mVar 5) (aCons (mCall (aCons (mVar 7) (aCons (mVar 1) (aNil))) (sized 2 (φ_expanded 9))) (aNil))) (sized 2 φ_add_polys)))
    (sNil))))
    (sSeq (sExp (mMth (mVar 3) (aCons (mIf (tB (m2 (m2 (m2 (mVar 2) (mVar 4) (lift2 1 subP)) (mC (.int 2)) (lift2 1 modP)) (mC (.int 0)) (lift2 3 eqP))) (mVar 5) (mCall (aCons (mVar 5) (aNil)) (sized 1 φ_negative_polys))) (aNil)) appendG))
    (sNil)))))
    (sSeq (sRet (mL (aCons (mVar 3) (aNil)) (gL1 (lift1 1 tupP))))
    (sNil)))))
def φ_characteristic_minors : List D → M D := fnDen N_characteristic_minors m_characteristic_minors
def N_check_rows : List Str := ["rows", "size", "row", "item"]
def m_check_rows : MS :=
    sSeq (sIf (tNt (tV (m1 (mVar 0) (lift1 3 (isiP .tup))))) (sSeq (sRaise 0)
    (sNil)) (sNil))
    (sSeq (sFor (iSeq (mVar 0)) (.nm 2) (sSeq (sIf (tOrr (tNt (tV (m1 (mVar 2) (lift1 3 (isiP .tup))))) (tOrr (tB (m2 (mL (aCons (mVar 2) (aNil)) (gL1 lenG)) (mVar 1) (lift2 3 neP))) (tNt (tV (mL (aCons (mCompV false 2 (.nm 3) [3] (tTr) (mCall (aCons (mVar 3) (aNil)) (sized 1 φ_is_ratio))) (aNil)) (gL1 (lift1 1 allP))))))) (sSeq (sRaise 0)
    (sNil)) (sNil))
    (sNil)))
    (sNil))
def φ_check_rows : List D → M D := fnDen N_check_rows m_check_rows
def N_turned : List Str := ["rows", "k", "row"]
def m_turned : MS :=
    sSeq (sIf (tB (m2 (mVar 0) (mL (aNil) gTupD) (lift2 3 eqP))) (sSeq (sRet (mL (aNil) gTupD))
    (sNil)) (sNil))
    (sSeq (sRet (mL (aCons (mComp false (iArgs (aCons (mL (aCons (m2 (mVar 0) (mC (.int 0)) ixG) (aNil)) (gL1 lenG)) (aNil)) rng1) (.nm 1) [1] (tTr) (mL (aCons (mCompV false 0 (.nm 2) [2] (tTr) (m2 (mVar 2) (mVar 1) ixG)) (aNil)) (gL1 (lift1 1 tupP)))) (aNil)) (gL1 (lift1 1 tupP))))
    (sNil))
def φ_turned : List D → M D := fnDen N_turned m_turned
def N_times_rows : List Str := ["one", "other", "columns", "row", "column"]
def m_times_rows : MS :=
    sSeq (sAsg (.nm 2) (mCall (aCons (mVar 1) (aNil)) (sized 1 φ_turned)))
    (sSeq (sRet (mL (aCons (mCompV false 0 (.nm 3) [3] (tTr) (mL (aCons (mCompV false 2 (.nm 4) [4] (tTr) (mCall (aCons (mVar 3) (aCons (mVar 4) (aNil))) (sized 2 φ_dot))) (aNil)) (gL1 (lift1 1 tupP)))) (aNil)) (gL1 (lift1 1 tupP))))
    (sNil))
def φ_times_rows : List D → M D := fnDen N_times_rows m_times_rows
def N_identity : List Str := ["size", "one", "other"]
def m_identity : MS :=
    sSeq (sRet (mL (aCons (mComp false (iArgs (aCons (mVar 0) (aNil)) rng1) (.nm 1) [1] (tTr) (mL (aCons (mComp false (iArgs (aCons (mVar 0) (aNil)) rng1) (.nm 2) [2] (tTr) (mIf (tB (m2 (mVar 1) (mVar 2) (lift2 3 eqP))) (mC (mkD [1, 1])) (mC (mkD [0, 1])))) (aNil)) (gL1 (lift1 1 tupP)))) (aNil)) (gL1 (lift1 1 tupP))))
    (sNil)
def φ_identity : List D → M D := fnDen N_identity m_identity
def N_trace : List Str := ["rows", "found", "place", "row"]
def m_trace : MS :=
    sSeq (sAsg (.nm 1) (mC (mkD [0, 1])))
    (sSeq (sFor (iArgs (aCons (mVar 0) (aNil)) enum1) (.tp (.cons (.nm 2) (.cons (.nm 3) .nil))) (sSeq (sAsg (.nm 1) (mCall (aCons (mVar 1) (aCons (m2 (mVar 3) (mVar 2) ixG) (aNil))) (sized 2 φ_add_ratios)))
    (sNil)))
    (sSeq (sRet (mVar 1))
    (sNil)))
def φ_trace : List D → M D := fnDen N_trace m_trace
def N_characteristic_rows : List Str := ["rows", "size", "found", "part", "step", "product", "number", "one", "row", "other", "item"]
def m_characteristic_rows : MS :=
    sSeq (sAsg (.nm 1) (mL (aCons (mVar 0) (aNil)) (gL1 lenG)))
    (sSeq (sExp (mCall (aCons (mVar 0) (aCons (mVar 1) (aNil))) (sized 2 φ_check_rows)))
    (sSeq (sAsg (.nm 2) (mL (aCons (mC (mkD [1, 1])) (aNil)) gMutD))
    (sSeq (sAsg (.nm 3) (mCall (aCons (mVar 1) (aNil)) (sized 1 φ_identity)))
    (sSeq (sFor (iArgs (aCons (mC (.int 1)) (aCons (m2 (mVar 1) (mC (.int 1)) (lift2 1 addP)) (aNil))) rng2) (.nm 4) (sSeq (sAsg (.nm 5) (mCall (aCons (mVar 0) (aCons (mVar 3) (aNil))) (sized 2 φ_times_rows)))
    (sSeq (sAsg (.nm 6) (mCall (aCons (mCall (aCons (mCall (aCons (mVar 5) (aNil)) (sized 1 φ_trace)) (aNil)) (sized 1 φ_negative_ratios)) (aCons (mCall (aCons (mVar 4) (aNil)) (sized 1 φ_of)) (aNil))) (sized 2 φ_divide)))
    (sSeq (sExp (mMth (mVar 2) (aCons (mVar 6) (aNil)) appendG))
    (sSeq (sAsg (.nm 3) (mL (aCons (mComp false (iArgs (aCons (mVar 5) (aNil)) enum1) (.tp (.cons (.nm 7) (.cons (.nm 8) .nil))) [7, 8] (tTr) (mL (aCons (mComp false (iArgs (aCons (mVar 8) (aNil)) enum1) (.tp (.cons (.nm 9) (.cons (.nm 10) .nil))) [9, 10] (tTr) (mCall (aCons (mVar 10) (aCons (mIf (tB (m2 (mVar 7) (mVar 9) (lift2 3 eqP))) (mVar 6) (mC (mkD [0, 1]))) (aNil))) (sized 2 φ_add_ratios))) (aNil)) (gL1 (lift1 1 tupP)))) (aNil)) (gL1 (lift1 1 tupP))))
    (sNil))))))
    (sSeq (sRet (mL (aCons (m1 (mVar 2) (lift1 1 revP)) (aNil)) (gL1 (lift1 1 tupP))))
    (sNil))))))
def φ_characteristic_rows : List D → M D := fnDen N_characteristic_rows m_characteristic_rows
def N__law_is_zero : List Str := ["rows", "told", "count", "size", "whole", "power", "one", "j", "k", "row", "item"]
def m__law_is_zero : MS :=
    sSeq (sAsg (.nm 3) (mL (aCons (mVar 0) (aNil)) (gL1 lenG)))
    (sSeq (sAsg (.nm 4) (mComp true (iArgs (aCons (mVar 3) (aNil)) rng1) (.nm 8) [8] (tTr) (m2 (mL (aCons (mL (aNil) gTupD) (aNil)) gLstD) (mVar 3) (lift2 1 mulP))))
    (sSeq (sAsg (.nm 5) (mL (aCons (mComp false (iArgs (aCons (mVar 3) (aNil)) rng1) (.nm 7) [7] (tTr) (mL (aCons (mComp false (iArgs (aCons (mVar 3) (aNil)) rng1) (.nm 8) [8] (tTr) (mIf (tB (m2 (mVar 7) (mVar 8) (lift2 3 eqP))) (mCall (aCons (mVar 2) (aCons (mL (aCons (mC (.int 1)) (aCons (mC (.int 1)) (aNil))) gTupD) (aNil))) (sized 2 φ__law_number)) (mL (aNil) gTupD))) (aNil)) (gL1 (lift1 1 tupP)))) (aNil)) (gL1 (lift1 1 tupP))))
    (sSeq (sFor (iSeq (mVar 1)) (.nm 6) (sSeq (sFor (iArgs (aCons (mVar 3) (aNil)) rng1) (.nm 7) (sSeq (sSetI (mVar 4) (mVar 7) (mComp false (iArgs (aCons (mVar 3) (aNil)) rng1) (.nm 8) [8] (tTr) (mCall (aCons (m2 (m2 (mVar 4) (mVar 7) ixG) (mVar 8) ixG) (aCons (mCall (aCons (mVar 6) (aCons (m2 (m2 (mVar 5) (mVar 7) ixG) (mVar 8) ixG) (aNil))) (sized 2 φ__law_product)) (aNil))) (sized 2 φ__law_total))))
    (sNil)))
    (sSeq (sAsg (.nm 5) (mCall (aCons (mVar 5) (aCons (mVar 0) (aNil))) (sized 2 φ__law_times)))
    (sNil))))
    (sSeq (sRet (mL (aCons (mCompV false 4 (.nm 9) [9] (tTr) (mL (aCons (mCompV false 9 (.nm 10) [10] (tTr) (m2 (mVar 10) (mL (aNil) gTupD) (lift2 3 eqP))) (aNil)) (gL1 (lift1 1 allP)))) (aNil)) (gL1 (lift1 1 allP))))
    (sNil)))))
def φ__law_is_zero : List D → M D := fnDen N__law_is_zero m__law_is_zero
end Q
set_option Elab.async false
set_option linter.all false
set_option maxRecDepth 100000
set_option maxHeartbeats 4000000
namespace Q
open PySem PySem.Spec Fw
open L2 (Key)
/-! ## the greatest common divisor -/
theorem while_succ {c : Env' → M Bool} {b : MS} {f : Nat} {env : Env'} {st : Sto} : sWhile c b (f + 1) env st = (match c env st with
  | .ok k st' => if k = true then (match b env st' with
    | .nx env' st'' => sWhile c b f env' st''
    | .cnt env' st'' => sWhile c b f env' st''
    | .brk env' st'' => .nx env' st''
    | r => r) else .nx env st'
  | .exc k st' => .exc k env st'
  | .bad => .bad) := by
  rw [sWhile]
  show sbnd (c env) env _ st = _
  unfold sbnd
  cases c env st with
  | ok k s =>
    cases k with
    | true =>
      simp only [if_true]
      all_goals (cases b env s <;> rfl)
    | false => rfl
  | exc k s => rfl
  | bad => rfl
def wDiv (f : Nat) : MS := sWhile (tB (m2 (mVar 1) (mC (.int 0)) (lift2 3 gtP))) (sSeq (sPar [0, 1] (aCons (mVar 1) (aCons (m2 (mVar 0) (mVar 1) (lift2 1 modP)) (aNil)))) (sNil)) f
theorem fmod_nat (x y : Nat) : (x : Int).fmod (y : Int) = ((x % y : Nat) : Int) := by
  rw [Int.fmod_eq_emod_of_nonneg _ (by omega)]
  rfl
theorem w_div (st : Sto) : ∀ (f x y : Nat), y < f → wDiv f [some (.p (.int x)), some (.p (.int y))] st = .nx [some (.p (.int (Nat.gcd x y : Nat))), some (.p (.int 0))] st
  | 0, x, y, h => by omega
  | f + 1, x, 0, h => by
    unfold wDiv
    rw [while_succ]
    simp
  | f + 1, x, y + 1, h => by
    have ih := w_div st f (y + 1) (x % (y + 1)) (by have := Nat.mod_lt x (show 0 < y + 1 by omega); omega)
    unfold wDiv at ih ⊢
    rw [while_succ]
    have hm : modP (.int (x : Int)) (.int ((y + 1 : Nat) : Int)) = some (.int ((x % (y + 1) : Nat) : Int)) := by rw [ev_mod (by omega), fmod_nat]
    have hg : Nat.gcd x (y + 1) = Nat.gcd (y + 1) (x % (y + 1)) := by rw [Nat.gcd_comm x (y + 1), Nat.gcd_rec, Nat.gcd_comm]
    rw [hg]
    generalize x % (y + 1) = z at ih hm ⊢
    simp [hm, -Int.natCast_add, show (0 : Int) < ((y + 1 : Nat) : Int) by omega]
    exact ih
theorem abs_nat (a : Int) : (if a < 0 then -a else a) = ((a.natAbs : Nat) : Int) := by
  split <;> omega
theorem e_divisor (a b : Int) (st : Sto) (h : b.natAbs < fuel) : φ_divisor [.p (.int a), .p (.int b)] st = .ok (.p (.int (Int.gcd a b : Nat))) st := by
  have hw := w_div st fuel a.natAbs b.natAbs h
  unfold wDiv at hw
  simp [φ_divisor, N_divisor, m_divisor, abs_nat, hw, Int.gcd]
/-! ## fractions -/
def rat (q : Rat) : PyData := .tuple [.int q.num, .int q.den]
theorem gcd_pos {a b : Int} (hb : b ≠ 0) : 0 < Int.gcd a b := Int.gcd_pos_of_ne_zero_right a hb
theorem gcd_log {a b : Int} (hb : b ≠ 0) (hB : b.natAbs < 2 ^ 9000) : (Int.gcd a b : Int).natAbs.log2 < 9000 := by
  have h1 := gcd_pos (a := a) hb
  have h2 : Int.gcd a b ≤ b.natAbs := Nat.le_of_dvd (by omega) (Int.gcd_dvd_natAbs_right a b)
  rw [Int.natAbs_natCast]
  exact (Nat.log2_lt (by omega)).mpr (by omega)
theorem div_num {a b : Int} (hb : 0 < b) : (Rat.divInt a b).num = a.fdiv (Int.gcd a b : Nat) := by
  rw [Rat.num_divInt, Int.sign_eq_one_of_pos hb, Int.one_mul, Int.fdiv_eq_ediv_of_nonneg _ (by omega), Int.gcd_comm]
theorem div_den {a b : Int} (hb : 0 < b) : ((Rat.divInt a b).den : Int) = b.fdiv (Int.gcd a b : Nat) := by
  rw [Rat.den_divInt, if_neg (by omega), Int.fdiv_eq_ediv_of_nonneg _ (by omega), Int.gcd_comm]
  rw [Int.natCast_ediv, Int.natAbs_of_nonneg (by omega)]
theorem div_numN {a b : Int} (hb : b < 0) : (Rat.divInt a b).num = a.fdiv (-(Int.gcd a b : Nat)) := by
  rw [Int.fdiv_eq_ediv_of_dvd (Int.neg_dvd.mpr (Int.gcd_dvd_left ..)), Int.ediv_neg, Rat.num_divInt, Int.sign_eq_neg_one_of_neg hb, Int.gcd_comm, Int.neg_one_mul, Int.neg_ediv_of_dvd (Int.gcd_dvd_left ..)]
theorem div_denN {a b : Int} (hb : b < 0) : ((Rat.divInt a b).den : Int) = b.fdiv (-(Int.gcd a b : Nat)) := by
  rw [Int.fdiv_eq_ediv_of_dvd (Int.neg_dvd.mpr (Int.gcd_dvd_right ..)), Int.ediv_neg, Rat.den_divInt, if_neg (by omega), Int.gcd_comm, ← Int.neg_ediv_of_dvd (Int.gcd_dvd_right ..)]
  rw [Int.natCast_ediv]
  congr 1
  omega
theorem fuel_9000 {n : Nat} (h : n < 2 ^ 9000) : n < fuel := Nat.lt_of_lt_of_le h (Nat.pow_le_pow_right (by decide) (by decide))
theorem e_make (a b : Int) (st : Sto) (hb : b ≠ 0) (hB : b.natAbs < 2 ^ 9000) : φ_make [.p (.int a), .p (.int b)] st = .ok (.p (rat (Rat.divInt a b))) st := by
  have hd := fun st => e_divisor a b st (fuel_9000 hB)
  have hp := gcd_pos (a := a) hb
  have hl := gcd_log (a := a) hb hB
  have hne : ((Int.gcd a b : Nat) : Int) ≠ 0 := by omega
  have hl' : (-(Int.gcd a b : Int)).natAbs.log2 < 9000 := by rw [Int.natAbs_neg]; exact hl
  by_cases hs : b < 0
  · have f1 := ev_fdiv (i := a) (j := -(Int.gcd a b : Nat)) (by omega) hl'
    have f2 := ev_fdiv (i := b) (j := -(Int.gcd a b : Nat)) (by omega) hl'
    simp [φ_make, N_make, m_make, hb, hd, hs, f1, f2, rat, div_numN hs, div_denN hs]
  · have f1 := ev_fdiv (i := a) (j := (Int.gcd a b : Nat)) hne hl
    have f2 := ev_fdiv (i := b) (j := (Int.gcd a b : Nat)) hne hl
    have hs' : 0 < b := by omega
    simp [φ_make, N_make, m_make, hb, hd, hs, f1, f2, rat, div_num hs', div_den hs']
/-! a datum that stands for a fraction -/
def IsR (c : PyData) (q : Rat) : Prop := opn c = some [.int q.num, .int q.den]
theorem IsR.rat (q : Rat) : IsR (rat q) q := rfl
theorem IsR.nm {c : PyData} {q : Rat} (h : IsR c q) : Fw.nm c = Q.rat q := by
  unfold IsR at h
  unfold opn at h
  split at h
  · cases h; rfl
  · cases h; rfl
  · cases h
/-- a fraction within bounds: numerator and denominator have at most N binary places -/
def Nb (N : Nat) (q : Rat) : Prop := q.num.natAbs < 2 ^ N ∧ q.den < 2 ^ N
theorem log_le {n N : Nat} (h : n < 2 ^ N) : n.log2 ≤ N := by
  by_cases z : n = 0
  · rw [z]; simp [Nat.log2_zero]
  · exact Nat.le_of_lt ((Nat.log2_lt z).mpr h)
theorem mulOk_of {i j : Int} {N M : Nat} (h1 : i.natAbs < 2 ^ N) (h2 : j.natAbs < 2 ^ M) (h : N + M < 1000000) : mulOk i j = true := by
  have a := log_le h1
  have b := log_le h2
  exact decide_eq_true (by omega)
theorem den_pos (q : Rat) : 0 < q.den := q.den_pos
section
variable {x y : PyData} {q r : Rat} {N M : Nat} {st : Sto}
theorem den_mul {q r : Rat} (hq : Nb N q) (hr : Nb M r) (h : N + M ≤ 9000) : ((q.den : Int) * (r.den : Int)).natAbs < 2 ^ 9000 := by
  rw [Int.natAbs_mul, Int.natAbs_natCast, Int.natAbs_natCast]
  calc q.den * r.den < 2 ^ N * 2 ^ M := Nat.mul_lt_mul_of_lt_of_lt hq.2 hr.2
    _ = 2 ^ (N + M) := (Nat.pow_add ..).symm
    _ ≤ 2 ^ 9000 := Nat.pow_le_pow_right (by decide) h
theorem e_addR (hx : IsR x q) (hy : IsR y r) (hq : Nb N q) (hr : Nb M r) (h : N + M ≤ 9000) : φ_add_ratios [.p x, .p y] st = .ok (.p (rat (q + r))) st := by
  have dq := den_pos q
  have dr := den_pos r
  have i1 := fun k st => ixG_opn (st := st) (k := k) hx
  have i2 := fun k st => ixG_opn (st := st) (k := k) hy
  have m1 := ev_mulI (mulOk_of (i := q.num) (j := r.den) hq.1 (by rw [Int.natAbs_natCast]; exact hr.2) (by omega))
  have m2 := ev_mulI (mulOk_of (i := r.num) (j := q.den) hr.1 (by rw [Int.natAbs_natCast]; exact hq.2) (by omega))
  have m3 := ev_mulI (mulOk_of (i := q.den) (j := r.den) (by rw [Int.natAbs_natCast]; exact hq.2) (by rw [Int.natAbs_natCast]; exact hr.2) (show N + M < 1000000 by omega))
  have hne : (q.den : Int) * (r.den : Int) ≠ 0 := Int.mul_ne_zero (by omega) (by omega)
  have hm := e_make (q.num * r.den + r.num * q.den) (q.den * r.den) st hne (den_mul hq hr h)
  have e : Rat.divInt (q.num * r.den + r.num * q.den) ((q.den : Int) * (r.den : Int)) = q + r := by
    rw [Rat.add_def', ← Int.natCast_mul, Rat.divInt_ofNat]
  rw [e] at hm
  simp [φ_add_ratios, N_add_ratios, m_add_ratios, i1, i2, m1, m2, m3, hm]
theorem e_mulR (hx : IsR x q) (hy : IsR y r) (hq : Nb N q) (hr : Nb M r) (h : N + M ≤ 9000) : φ_multiply_ratios [.p x, .p y] st = .ok (.p (rat (q * r))) st := by
  have dq := den_pos q
  have dr := den_pos r
  have i1 := fun k st => ixG_opn (st := st) (k := k) hx
  have i2 := fun k st => ixG_opn (st := st) (k := k) hy
  have m1 := ev_mulI (mulOk_of (i := q.num) (j := r.num) hq.1 hr.1 (by omega))
  have m3 := ev_mulI (mulOk_of (i := q.den) (j := r.den) (by rw [Int.natAbs_natCast]; exact hq.2) (by rw [Int.natAbs_natCast]; exact hr.2) (show N + M < 1000000 by omega))
  have hne : (q.den : Int) * (r.den : Int) ≠ 0 := Int.mul_ne_zero (by omega) (by omega)
  have hm := e_make (q.num * r.num) (q.den * r.den) st hne (den_mul hq hr h)
  have e : Rat.divInt (q.num * r.num) ((q.den : Int) * (r.den : Int)) = q * r := by
    rw [Rat.mul_def', ← Int.natCast_mul, Rat.divInt_ofNat]
  rw [e] at hm
  simp [φ_multiply_ratios, N_multiply_ratios, m_multiply_ratios, i1, i2, m1, m3, hm]
theorem e_negR (hx : IsR x q) : φ_negative_ratios [.p x] st = .ok (.p (rat (-q))) st := by
  have i1 := fun k st => ixG_opn (st := st) (k := k) hx
  simp [φ_negative_ratios, N_negative_ratios, m_negative_ratios, i1, rat]
theorem e_of (i : Int) : φ_of [.p (.int i)] st = .ok (.p (rat i)) st := by
  simp [φ_of, N_of, m_of, rat]
/-! the law's own -/
end
def wDiv4 (f : Nat) : MS := sWhile (tB (m2 (mVar 3) (mC (.int 0)) (lift2 3 gtP))) (sSeq (sPar [2, 3] (aCons (mVar 3) (aCons (m2 (mVar 2) (mVar 3) (lift2 1 modP)) (aNil)))) (sNil)) f
theorem w_div4 (a b : Option D) (st : Sto) : ∀ (f x y : Nat), y < f → wDiv4 f [a, b, some (.p (.int x)), some (.p (.int y))] st = .nx [a, b, some (.p (.int (Nat.gcd x y : Nat))), some (.p (.int 0))] st
  | 0, x, y, h => by omega
  | f + 1, x, 0, h => by
    unfold wDiv4
    rw [while_succ]
    simp
  | f + 1, x, y + 1, h => by
    have ih := w_div4 a b st f (y + 1) (x % (y + 1)) (by have := Nat.mod_lt x (show 0 < y + 1 by omega); omega)
    unfold wDiv4 at ih ⊢
    rw [while_succ]
    have hm : modP (.int (x : Int)) (.int ((y + 1 : Nat) : Int)) = some (.int ((x % (y + 1) : Nat) : Int)) := by rw [ev_mod (by omega), fmod_nat]
    have hg : Nat.gcd x (y + 1) = Nat.gcd (y + 1) (x % (y + 1)) := by rw [Nat.gcd_comm x (y + 1), Nat.gcd_rec, Nat.gcd_comm]
    rw [hg]
    generalize x % (y + 1) = z at ih hm ⊢
    simp [hm, -Int.natCast_add, show (0 : Int) < ((y + 1 : Nat) : Int) by omega]
    exact ih
section
variable {x y : PyData} {q r : Rat} {N M : Nat} {st : Sto}
theorem e_lmake (a b : Int) (st : Sto) (hb : 0 < b) (hB : b.natAbs < 2 ^ 9000) : φ__law_make [.p (.int a), .p (.int b)] st = .ok (.p (rat (Rat.divInt a b))) st := by
  have hw := w_div4 (some (.p (.int a))) (some (.p (.int b))) st fuel a.natAbs b.natAbs (fuel_9000 hB)
  unfold wDiv4 at hw
  have hp := gcd_pos (a := a) (b := b) (by omega)
  have hl := gcd_log (a := a) (b := b) (by omega) hB
  have hne : ((Int.gcd a b : Nat) : Int) ≠ 0 := by omega
  have f1 := ev_fdiv (i := a) (j := (Int.gcd a b : Nat)) hne hl
  have f2 := ev_fdiv (i := b) (j := (Int.gcd a b : Nat)) hne hl
  have eg : Nat.gcd a.natAbs b.natAbs = Int.gcd a b := rfl
  rw [eg] at hw
  simp [φ__law_make, N__law_make, m__law_make, abs_nat, hw, hb, f1, f2, rat, div_num hb, div_den hb]
theorem e_lplus (hx : IsR x q) (hy : IsR y r) (hq : Nb N q) (hr : Nb M r) (h : N + M ≤ 9000) : φ__law_plus [.p x, .p y] st = .ok (.p (rat (q + r))) st := by
  have dq := den_pos q
  have dr := den_pos r
  have i1 := fun k st => ixG_opn (st := st) (k := k) hx
  have i2 := fun k st => ixG_opn (st := st) (k := k) hy
  have m1 := ev_mulI (mulOk_of (i := q.num) (j := r.den) hq.1 (by rw [Int.natAbs_natCast]; exact hr.2) (by omega))
  have m2 := ev_mulI (mulOk_of (i := r.num) (j := q.den) hr.1 (by rw [Int.natAbs_natCast]; exact hq.2) (by omega))
  have m3 := ev_mulI (mulOk_of (i := q.den) (j := r.den) (by rw [Int.natAbs_natCast]; exact hq.2) (by rw [Int.natAbs_natCast]; exact hr.2) (show N + M < 1000000 by omega))
  have hne : 0 < (q.den : Int) * (r.den : Int) := Int.mul_pos (by omega) (by omega)
  have hm := e_lmake (q.num * r.den + r.num * q.den) (q.den * r.den) st hne (den_mul hq hr h)
  have e : Rat.divInt (q.num * r.den + r.num * q.den) ((q.den : Int) * (r.den : Int)) = q + r := by
    rw [Rat.add_def', ← Int.natCast_mul, Rat.divInt_ofNat]
  rw [e] at hm
  simp [φ__law_plus, N__law_plus, m__law_plus, i1, i2, m1, m2, m3, hm]
theorem e_lby (hx : IsR x q) (hy : IsR y r) (hq : Nb N q) (hr : Nb M r) (h : N + M ≤ 9000) : φ__law_by [.p x, .p y] st = .ok (.p (rat (q * r))) st := by
  have dq := den_pos q
  have dr := den_pos r
  have i1 := fun k st => ixG_opn (st := st) (k := k) hx
  have i2 := fun k st => ixG_opn (st := st) (k := k) hy
  have m1 := ev_mulI (mulOk_of (i := q.num) (j := r.num) hq.1 hr.1 (by omega))
  have m3 := ev_mulI (mulOk_of (i := q.den) (j := r.den) (by rw [Int.natAbs_natCast]; exact hq.2) (by rw [Int.natAbs_natCast]; exact hr.2) (show N + M < 1000000 by omega))
  have hne : 0 < (q.den : Int) * (r.den : Int) := Int.mul_pos (by omega) (by omega)
  have hm := e_lmake (q.num * r.num) (q.den * r.den) st hne (den_mul hq hr h)
  have e : Rat.divInt (q.num * r.num) ((q.den : Int) * (r.den : Int)) = q * r := by
    rw [Rat.mul_def', ← Int.natCast_mul, Rat.divInt_ofNat]
  rw [e] at hm
  simp [φ__law_by, N__law_by, m__law_by, i1, i2, m1, m3, hm]
end
end Q
set_option Elab.async false
set_option linter.all false
set_option maxRecDepth 100000
set_option maxHeartbeats 4000000
namespace Fw
open PySem PySem.Spec
open L2 (Key)
/-! ## comprehensions, loops -/
theorem pures_mapp {α : Type} (h : α → PyData) (xs : List α) : pures (xs.map fun x => D.p (h x)) = some (xs.map h) := by
  have : (xs.map fun x => D.p (h x)) = (xs.map h).map D.p := by rw [List.map_map]; rfl
  rw [this, pures_map]
/-- over data x: h x each, filtered by p -/
theorem comp_data {α : Type} {mi : Env' → M Src} {g : G} {own : List Nat} {t : Env' → M Bool} {m : Env' → M D} {env : Env'} {st st0 : Sto} {xs : List α} {e : α → PyData} {p : α → Bool} {h : α → PyData} (hs : mi env st0 = .ok (.fix (xs.map fun x => .p (e x))) st) (hl : xs.length ≤ 1000000)
    (ht : ∀ x ∈ xs, turnG g (wipeE env own) (bodyC t m) (.p (e x)) st = .ok (if p x = true then [.p (h x)] else []) st) : mComp false mi g own t m env st0 = .ok (.p (.list ((xs.filter p).map h))) st := by
  unfold mComp
  rw [bnd_ok hs]
  have h1 : compR 1000000 env g own (bodyC t m) (.fix (xs.map fun x => .p (e x))) st = .ok ((xs.filter p).map fun x => .p (h x)) st := by
    unfold compR
    show (if (xs.map fun x => D.p (e x)).length ≤ 1000000 then compS (.fix (xs.map fun x => .p (e x))) (turnG g (wipeE env own) (bodyC t m)) (xs.map fun x => D.p (e x)).length 0 st else .bad) = _
    rw [if_pos (by rw [List.length_map]; exact hl), compS_fix _ _ (by omega)]
    show compL _ (xs.map fun x => D.p (e x)) st = _
    clear hs hl
    induction xs with
    | nil => rfl
    | cons x xs ih =>
      rw [List.map_cons]
      unfold compL
      rw [bnd_ok (ht x List.mem_cons_self), bnd_ok (ih fun y hy => ht y (List.mem_cons_of_mem _ hy))]
      by_cases q : p x = true
      · rw [if_pos q, List.filter_cons_of_pos q]; rfl
      · rw [if_neg q, List.filter_cons_of_neg q]; rfl
  rw [bnd_ok h1]
  show (match pures ((xs.filter p).map fun x => D.p (h x)) with
    | some xs => R.ok (D.p (.list xs)) st
    | none => .bad) = _
  rw [pures_mapp]
theorem comp_all {α : Type} {mi : Env' → M Src} {g : G} {own : List Nat} {t : Env' → M Bool} {m : Env' → M D} {env : Env'} {st st0 : Sto} {xs : List α} {e : α → PyData} {h : α → PyData} (hs : mi env st0 = .ok (.fix (xs.map fun x => .p (e x))) st) (hl : xs.length ≤ 1000000)
    (ht : ∀ x ∈ xs, turnG g (wipeE env own) (bodyC t m) (.p (e x)) st = .ok [.p (h x)] st) : mComp false mi g own t m env st0 = .ok (.p (.list (xs.map h))) st := by
  have := comp_data (p := fun _ => true) (h := h) hs hl fun x hx => by rw [if_pos rfl]; exact ht x hx
  rw [this, List.filter_eq_self.mpr (fun _ _ => rfl)]
/-- a turn, told by its parts -/
theorem turn_all {g : G} {env env1 : Env'} {m : Env' → M D} {x d : D} {st : Sto} (hg : gSet g x env = some env1) (h : m env1 st = .ok d st) : turnG g env (bodyC tTr m) x st = .ok [d] st := by
  unfold turnG
  rw [hg]
  show noexc (bodyC tTr m env1) st = _
  unfold noexc bodyC
  have e1 : bnd (tTr env1) (fun b => if b = true then bnd (m env1) fun y => Fw.ret [y] else Fw.ret []) st = .ok [d] st := by
    rw [bnd_ok (show tTr env1 st = .ok true st from rfl), if_pos rfl, bnd_ok h]
    rfl
  rw [e1]
theorem turn_if {g : G} {env env1 : Env'} {t : Env' → M Bool} {m : Env' → M D} {x d : D} {st : Sto} {b : Bool} (hg : gSet g x env = some env1) (ht : t env1 st = .ok b st) (h : b = true → m env1 st = .ok d st) : turnG g env (bodyC t m) x st = .ok (if b = true then [d] else []) st := by
  unfold turnG
  rw [hg]
  show noexc (bodyC t m env1) st = _
  unfold noexc bodyC
  have e1 : bnd (t env1) (fun b => if b = true then bnd (m env1) fun y => Fw.ret [y] else Fw.ret []) st = .ok (if b = true then [d] else []) st := by
    rw [bnd_ok ht]
    cases b with
    | true => rw [if_pos rfl, if_pos rfl, bnd_ok (h rfl)]; rfl
    | false => rw [if_neg Bool.false_ne_true, if_neg Bool.false_ne_true]; rfl
  rw [e1]
/-- over a name that holds no dict -/
theorem compV_p {mu : Bool} {i : Nat} {g : G} {own : List Nat} {t : Env' → M Bool} {m : Env' → M D} {env : Env'} {st : Sto} {x : PyData} (h : env[i]? = some (some (.p x))) : mCompV mu i g own t m env st = mComp mu (iSeq (mVar i)) g own t m env st := by
  unfold mCompV
  rw [h]
  rfl
theorem compV_lst {mu : Bool} {i n : Nat} {g : G} {own : List Nat} {t : Env' → M Bool} {m : Env' → M D} {env : Env'} {st : Sto} {ds : List D} (h : env[i]? = some (some (.loc n))) (hn : st[n]? = some (.lst ds)) : mCompV mu i g own t m env st = mComp mu (iSeq (mVar i)) g own t m env st := by
  unfold mCompV
  rw [h]
  show (match st[n]? with
    | some (.dT kvs) => _
    | _ => mComp mu (iSeq (mVar i)) g own t m env st) = _
  rw [hn]
theorem iSeq_opn {i : Nat} {env : Env'} {st : Sto} {x : PyData} {xs : List PyData} (h : env[i]? = some (some (.p x))) (ho : opn x = some xs) : iSeq (mVar i) env st = .ok (.fix (xs.map .p)) st := by
  unfold iSeq
  show bnd (mVar i env) _ st = _
  rw [bnd_ok (a := .p x) (st' := st) (by rw [ev_mVar, h])]
  have hs : srcOf (.p x) = some (.fix (xs.map .p)) := by
    cases x with
    | tuple ys => cases ho; rfl
    | dict kvs =>
      show (match opn (.dict kvs) with
        | some xs => some (Src.fix (xs.map D.p))
        | none => none) = _
      rw [ho]
    | _ => cases ho
  rw [hs]
theorem iSeq_tup {i : Nat} {env : Env'} {st : Sto} {xs : List PyData} (h : env[i]? = some (some (.p (.tuple xs)))) : iSeq (mVar i) env st = .ok (.fix (xs.map .p)) st := iSeq_opn h rfl
theorem iSeq_of {m : Env' → M D} {env : Env'} {st st1 : Sto} {x : PyData} {xs : List PyData} (h : m env st = .ok (.p x) st1) (ho : x = .tuple xs ∨ x = .list xs) : iSeq m env st = .ok (.fix (xs.map .p)) st1 := by
  unfold iSeq
  show bnd (m env) _ st = _
  rw [bnd_ok h]
  rcases ho with rfl | rfl <;> rfl
theorem iSeq_lst {i : Nat} {env : Env'} {st : Sto} {xs : List PyData} (h : env[i]? = some (some (.p (.list xs)))) : iSeq (mVar i) env st = .ok (.fix (xs.map .p)) st := iSeq_of (by rw [ev_mVar, h]) (.inr rfl)
theorem iSeq_loc {i n : Nat} {env : Env'} {st : Sto} {ds : List D} (h : env[i]? = some (some (.loc n))) (hn : st[n]? = some (.lst ds)) : iSeq (mVar i) env st = .ok (.loc n) st := by
  unfold iSeq
  show bnd (mVar i env) _ st = _
  rw [bnd_ok (a := .loc n) (st' := st) (by rw [ev_mVar, h])]
  have hc : cont (.loc n) st = some ds := by
    show (match st[n]? with
      | some (.lst ds) => some ds
      | _ => none) = _
    rw [hn]
  show (match cont (.loc n) st with
    | some _ => Fw.R.ok (Src.loc n) st
    | none => .bad) = _
  rw [hc]
/-- loops by an invariant -/
theorem forS_inv {src : Src} {g : G} {b : MS} {ds : List D} (P : Nat → Env' → Sto → Prop) (hc : ∀ i env st, P i env st → cont src st = some ds)
    (hs : ∀ i x env st, ds[i]? = some x → P i env st → ∃ env1, gSet g x env = some env1 ∧ ∃ env' st', (b env1 st = .nx env' st' ∨ b env1 st = .cnt env' st') ∧ P (i + 1) env' st') : ∀ f i env st, f + i = ds.length → P i env st → ∃ env' st', forS src g b f i env st = .nx env' st' ∧ P ds.length env' st'
  | 0, i, env, st, h, p => by
    refine ⟨env, st, ?_, by rw [← h, Nat.zero_add]; exact p⟩
    show (match cont src st with
      | some ds => if ds.length ≤ i then RS.nx env st else .bad
      | none => .bad) = _
    rw [hc i env st p]
    exact if_pos (by omega)
  | f + 1, i, env, st, h, p => by
    have hi : i < ds.length := by omega
    obtain ⟨env1, h1, env', st', h2, h3⟩ := hs i ds[i] env st (List.getElem?_eq_getElem hi) p
    obtain ⟨env2, st2, h4, h5⟩ := forS_inv P hc hs f (i + 1) env' st' (by omega) h3
    refine ⟨env2, st2, ?_, h5⟩
    show (match cont src st with
      | some ds => (match ds[i]? with
        | none => RS.nx env st
        | some x => (match gSet g x env with
          | none => RS.bad
          | some env1 => (match b env1 st with
            | .nx env' st' => forS src g b f (i + 1) env' st'
            | .cnt env' st' => forS src g b f (i + 1) env' st'
            | .brk env' st' => .nx env' st'
            | r => r)))
      | none => RS.bad) = _
    rw [hc i env st p]
    simp only [List.getElem?_eq_getElem hi, h1]
    rcases h2 with h2 | h2 <;> (rw [h2]; exact h4)
theorem for_inv {mi : Env' → M Src} {src : Src} {g : G} {b : MS} {ds : List D} {env : Env'} {st st1 : Sto} (P : Nat → Env' → Sto → Prop) (hm : mi env st = .ok src st1) (h0 : P 0 env st1) (hc : ∀ i env st, P i env st → cont src st = some ds)
    (hs : ∀ i x env st, ds[i]? = some x → P i env st → ∃ env1, gSet g x env = some env1 ∧ ∃ env' st', (b env1 st = .nx env' st' ∨ b env1 st = .cnt env' st') ∧ P (i + 1) env' st') : ∃ env' st', sFor mi g b env st = .nx env' st' ∧ P ds.length env' st' := by
  obtain ⟨env', st', h1, h2⟩ := forS_inv P hc hs ds.length 0 env st1 (by omega) h0
  refine ⟨env', st', ?_, h2⟩
  show sbnd (mi env) env _ st = _
  unfold sbnd
  rw [hm]
  have hl : srcLen src st1 = some ds.length := by
    unfold srcLen
    rw [hc 0 env st1 h0]
    rfl
  simp only [hl]
  exact h1
/-- ranges -/
theorem sm_ok {n : Nat} (h : n ≤ 1000000) : smallI (n : Int) = true := by
  have h1 : -(2 ^ 62) ≤ (n : Int) := by omega
  have h2 : (n : Int) < 2 ^ 62 := by omega
  unfold smallI
  rw [decide_eq_true h1, decide_eq_true h2]
  rfl
theorem rng1_ok {n : Nat} (h : smallI (n : Int) = true) : rng1 [.p (.int n)] = some (.fix (rngL 0 n)) := by
  generalize hz : (n : Int) = z at h
  have e : rng1 [.p (.int z)] = some (.fix (rngL 0 z.toNat)) := by
    unfold rng1
    simp only
    exact if_pos h
  rw [e, ← hz]
  rfl
theorem src_rng {ms : Env' → M (List D)} {env : Env'} {st st1 : Sto} {n : Nat} (h : ms env st = .ok [.p (.int n)] st1) (hn : n ≤ 1000000) : iArgs ms rng1 env st = .ok (.fix ((List.range n).map fun (j : Nat) => .p (.int j))) st1 := by
  unfold iArgs
  rw [bnd_ok h, rng1_ok (sm_ok hn)]
  unfold rngL
  simp only [Int.zero_add]
  rfl
theorem src_zip {env : Env'} {st st1 : Sto} {ms : Env' → M (List D)} {xs ys : List PyData} (h : ms env st = .ok [.p (.tuple xs), .p (.tuple ys)] st1) : iArgs ms zip2 env st = .ok (.fix ((xs.zip ys).map fun q => .p (.tuple [q.1, q.2]))) st1 := by
  unfold iArgs
  rw [bnd_ok h]
  rfl
theorem src_enum {env : Env'} {st st1 : Sto} {ms : Env' → M (List D)} {xs : List PyData} (h : ms env st = .ok [.p (.tuple xs)] st1) : iArgs ms enum1 env st = .ok (.fix (nums xs)) st1 := by
  unfold iArgs
  rw [bnd_ok h]
  rfl
theorem pairs_T (a b : List Int) : ((a.map PyData.int).zip (b.map PyData.int)).map (fun q => D.p (.tuple [q.1, q.2])) = (a.zip b).map fun q => D.p (.tuple [.int q.1, .int q.2]) := by
  rw [List.zip_map, List.map_map]
  rfl
theorem zip_tup (f : Int → Int → Int) (a b : List Int) : ((a.zip b).map fun q => PyData.int (f q.1 q.2)) = (a.zipWith f b).map .int := by
  induction a generalizing b with
  | nil => rfl
  | cons x a ih =>
    cases b with
    | nil => rfl
    | cons y b =>
      show PyData.int (f x y) :: ((a.zip b).map fun q => PyData.int (f q.1 q.2)) = PyData.int (f x y) :: (a.zipWith f b).map .int
      rw [ih b]
theorem mapb {α : Type} (h : α → Bool) (xs : List α) : (xs.map fun x => PyData.bool (h x)) = (xs.map h).map .bool := by rw [List.map_map]; rfl
end Fw
set_option Elab.async false
set_option linter.all false
set_option maxRecDepth 100000
set_option maxHeartbeats 4000000
/-! polynomials with fractions, exponents any whole numbers of endlessly many unknowns: as they stand for themselves -/
namespace Po
noncomputable section
open Classical
abbrev G := Nat → Int
abbrev L := List (G × Rat)
/-- the number at a place -/
def sem : L → G → Rat
  | [], _ => 0
  | t :: l, k => (if t.1 = k then t.2 else 0) + sem l k
theorem sem_append (l m : L) (k : G) : sem (l ++ m) k = sem l k + sem m k := by
  induction l with
  | nil => simp only [List.nil_append, sem]; rw [Rat.zero_add]
  | cons t l ih => simp only [List.cons_append, sem]; rw [ih, Rat.add_assoc]
/-- a sum over the terms -/
def lin : L → (G → Rat) → Rat
  | [], _ => 0
  | t :: l, F => t.2 * F t.1 + lin l F
theorem lin_append (l m : L) (F : G → Rat) : lin (l ++ m) F = lin l F + lin m F := by
  induction l with
  | nil => simp only [List.nil_append, lin]; rw [Rat.zero_add]
  | cons t l ih => simp only [List.cons_append, lin]; rw [ih, Rat.add_assoc]
theorem sem_lin (l : L) (k : G) : sem l k = lin l fun g => if g = k then 1 else 0 := by
  induction l with
  | nil => rfl
  | cons t l ih =>
    simp only [sem, lin]
    rw [ih]
    congr 1
    split <;> grind
theorem lin_part (l : L) (F : G → Rat) (a : G) : lin l F = sem l a * F a + lin (l.filter fun t => decide (t.1 ≠ a)) F := by
  induction l with
  | nil => simp only [lin, sem, List.filter_nil]; grind
  | cons t l ih =>
    simp only [lin, sem]
    rw [ih]
    by_cases h : t.1 = a
    · rw [if_pos h, List.filter_cons_of_neg (by simpa using h), h]; grind
    · rw [if_neg h, List.filter_cons_of_pos (by simpa using h)]
      simp only [lin]
      grind
theorem sem_part (l : L) (a k : G) : sem (l.filter fun t => decide (t.1 ≠ a)) k = if k = a then 0 else sem l k := by
  induction l with
  | nil => simp only [sem, List.filter_nil]; split <;> rfl
  | cons t l ih =>
    by_cases h : t.1 = a
    · rw [List.filter_cons_of_neg (by simpa using h), ih]
      simp only [sem]
      by_cases q : k = a
      · rw [if_pos q, if_pos q]
      · rw [if_neg q, if_neg q, if_neg (by rw [h]; exact Ne.symm q), Rat.zero_add]
    · rw [List.filter_cons_of_pos (by simpa using h)]
      simp only [sem]
      rw [ih]
      by_cases q : k = a
      · rw [if_pos q, if_pos q, if_neg (by rw [q]; exact h), Rat.zero_add]
      · rw [if_neg q, if_neg q]
theorem lin_zero : ∀ (n : Nat) (l : L) (F : G → Rat), l.length ≤ n → (∀ k, sem l k = 0) → lin l F = 0
  | _, [], _, _, _ => rfl
  | 0, _ :: _, _, h, _ => by simp at h
  | n + 1, t :: l, F, h, z => by
    rw [lin_part _ F t.1, z t.1, lin_zero n _ F]
    · grind
    · rw [List.filter_cons_of_neg (by simp)]
      exact Nat.le_trans (List.length_filter_le _ _) (by simpa using h)
    · intro k
      rw [sem_part, z k]
      split <;> rfl
def neg (l : L) : L := l.map fun t => (t.1, -t.2)
theorem sem_neg (l : L) (k : G) : sem (neg l) k = -sem l k := by
  induction l with
  | nil => simp only [neg, List.map_nil, sem]; grind
  | cons t l ih =>
    show (if t.1 = k then -t.2 else 0) + sem (neg l) k = -((if t.1 = k then t.2 else 0) + sem l k)
    rw [ih]
    split <;> grind
theorem lin_neg (l : L) (F : G → Rat) : lin (neg l) F = -lin l F := by
  induction l with
  | nil => simp only [neg, List.map_nil, lin]; grind
  | cons t l ih =>
    show -t.2 * F t.1 + lin (neg l) F = -(t.2 * F t.1 + lin l F)
    rw [ih]
    grind
theorem lin_congr {l m : L} (h : ∀ k, sem l k = sem m k) (F : G → Rat) : lin l F = lin m F := by
  have z := lin_zero (l ++ neg m).length (l ++ neg m) F (Nat.le_refl _) fun k => by rw [sem_append, sem_neg, h]; grind
  rw [lin_append, lin_neg] at z
  grind
def tmul (t : G × Rat) (m : L) : L := m.map fun u => (fun i => t.1 i + u.1 i, t.2 * u.2)
def mul (l m : L) : L := l.flatMap fun t => tmul t m
theorem sem_tmul (t : G × Rat) (m : L) (k : G) : sem (tmul t m) k = t.2 * sem m fun i => k i - t.1 i := by
  induction m with
  | nil => simp only [tmul, List.map_nil, sem]; grind
  | cons u m ih =>
    show (if (fun i => t.1 i + u.1 i) = k then t.2 * u.2 else 0) + sem (tmul t m) k = t.2 * ((if u.1 = (fun i => k i - t.1 i) then u.2 else 0) + sem m _)
    rw [ih]
    have e : ((fun i => t.1 i + u.1 i) = k) ↔ (u.1 = fun i => k i - t.1 i) := by
      constructor
      · intro h; subst h; funext i; simp only; omega
      · intro h; rw [h]; funext i; simp only; omega
    by_cases q : u.1 = fun i => k i - t.1 i
    · rw [if_pos q, if_pos (e.mpr q)]; grind
    · rw [if_neg q, if_neg (fun z => q (e.mp z))]; grind
theorem sem_mul (l m : L) (k : G) : sem (mul l m) k = lin l fun g => sem m fun i => k i - g i := by
  induction l with
  | nil => rfl
  | cons t l ih =>
    show sem (tmul t m ++ mul l m) k = _
    rw [sem_append, ih, sem_tmul]
    rfl
theorem mul_append (l l' m : L) : mul (l ++ l') m = mul l m ++ mul l' m := by
  unfold mul
  rw [List.flatMap_append]
theorem sem_mul_append (l m m' : L) (k : G) : sem (mul l (m ++ m')) k = sem (mul l m) k + sem (mul l m') k := by
  rw [sem_mul, sem_mul, sem_mul]
  induction l with
  | nil => simp only [lin]; grind
  | cons t l ih =>
    simp only [lin]
    rw [ih, sem_append]
    grind
theorem sem_mul1 (l : L) (t : G × Rat) (k : G) : sem (mul l [t]) k = sem (tmul t l) k := by
  rw [sem_mul, sem_tmul]
  induction l with
  | nil => simp only [lin, sem]; grind
  | cons u l ih =>
    rw [lin, ih]
    simp only [sem]
    have e : (t.1 = fun i => k i - u.1 i) ↔ (u.1 = fun i => k i - t.1 i) := by
      constructor
      · intro h; rw [h]; funext i; simp only; omega
      · intro h; rw [h]; funext i; simp only; omega
    by_cases q : u.1 = fun i => k i - t.1 i
    · rw [if_pos q, if_pos (e.mpr q)]; grind
    · rw [if_neg q, if_neg (fun z => q (e.mp z))]; grind
theorem sem_mul_comm (l m : L) (k : G) : sem (mul l m) k = sem (mul m l) k := by
  induction m with
  | nil =>
    rw [sem_mul]
    show _ = 0
    induction l with
    | nil => rfl
    | cons t l ih => simp only [lin, sem] at ih ⊢; rw [ih]; grind
  | cons t m ih =>
    show sem (mul l ([t] ++ m)) k = sem (tmul t l ++ mul m l) k
    rw [sem_mul_append, sem_append, ih, sem_mul1]
theorem tmul_tmul (t u : G × Rat) (m : L) : tmul t (tmul u m) = tmul (fun i => t.1 i + u.1 i, t.2 * u.2) m := by
  unfold tmul
  rw [List.map_map]
  apply List.map_congr_left
  intro v _
  simp only [Function.comp, Prod.mk.injEq]
  refine ⟨?_, ?_⟩
  · funext i; omega
  · grind
theorem tmul_mul (t : G × Rat) (l m : L) : tmul t (mul l m) = mul (tmul t l) m := by
  induction l with
  | nil => rfl
  | cons u l ih =>
    show tmul t (tmul u m ++ mul l m) = tmul (fun i => t.1 i + u.1 i, t.2 * u.2) m ++ mul (tmul t l) m
    rw [← ih, ← tmul_tmul]
    unfold tmul
    rw [List.map_append]
theorem mul_assoc' (l m n : L) : mul (mul l m) n = mul l (mul m n) := by
  induction l with
  | nil => rfl
  | cons t l ih =>
    show mul (tmul t m ++ mul l m) n = tmul t (mul m n) ++ mul l (mul m n)
    rw [mul_append, ih, tmul_mul]
/-! the ring -/
instance st : Setoid L := ⟨fun l m => ∀ k, sem l k = sem m k, fun _ _ => rfl, fun h k => (h k).symm, fun h h' k => (h k).trans (h' k)⟩
def P := Quotient st
def cls (l : L) : P := Quotient.mk st l
theorem cls_eq {l m : L} : cls l = cls m ↔ ∀ k, sem l k = sem m k := ⟨fun h => Quotient.exact h, fun h => Quotient.sound h⟩
/-- the number at a place -/
def co (p : P) (k : G) : Rat := Quotient.lift (fun l => sem l k) (fun (l m : L) (h : ∀ k, sem l k = sem m k) => h k) p
theorem co_cls (l : L) (k : G) : co (cls l) k = sem l k := rfl
theorem ext {p q : P} (h : ∀ k, co p k = co q k) : p = q := by
  obtain ⟨l, rfl⟩ := Quotient.exists_rep p
  obtain ⟨m, rfl⟩ := Quotient.exists_rep q
  exact Quotient.sound h
def padd (p q : P) : P := Quotient.lift₂ (fun l m => cls (l ++ m)) (fun l m l' m' (h : ∀ k, sem l k = sem l' k) (h' : ∀ k, sem m k = sem m' k) => cls_eq.mpr fun k => by rw [sem_append, sem_append, h k, h' k]) p q
def pmul (p q : P) : P := Quotient.lift₂ (fun l m => cls (mul l m)) (fun l m l' m' (h : ∀ k, sem l k = sem l' k) (h' : ∀ k, sem m k = sem m' k) => cls_eq.mpr fun k => by
  rw [sem_mul, sem_mul, lin_congr h]
  congr 1
  funext g
  exact h' _) p q
def pneg (p : P) : P := Quotient.lift (fun l => cls (neg l)) (fun l m h => cls_eq.mpr fun k => by rw [sem_neg, sem_neg, show sem l k = sem m k from h k]) p
/-- a number -/
def C (q : Rat) : P := cls [(fun _ => 0, q)]
instance : Add P := ⟨padd⟩
instance : Mul P := ⟨pmul⟩
instance : Neg P := ⟨pneg⟩
instance : Sub P := ⟨fun p q => padd p (pneg q)⟩
instance : NatCast P := ⟨fun n => C n⟩
instance : IntCast P := ⟨fun n => C n⟩
instance (n : Nat) : OfNat P n := ⟨C n⟩
instance : SMul Nat P := ⟨fun n p => pmul (C n) p⟩
instance : SMul Int P := ⟨fun n p => pmul (C n) p⟩
def ppow (p : P) : Nat → P
  | 0 => C 1
  | n + 1 => pmul (ppow p n) p
instance : HPow P Nat P := ⟨ppow⟩
theorem cls_append (l m : L) : cls (l ++ m) = cls l + cls m := rfl
theorem cls_mul (l m : L) : cls (mul l m) = cls l * cls m := rfl
theorem cls_neg (l : L) : cls (neg l) = -cls l := rfl
theorem co_add (p q : P) (k : G) : co (p + q) k = co p k + co q k := by
  obtain ⟨l, rfl⟩ := Quotient.exists_rep p
  obtain ⟨m, rfl⟩ := Quotient.exists_rep q
  exact sem_append l m k
theorem co_neg (p : P) (k : G) : co (-p) k = -co p k := by
  obtain ⟨l, rfl⟩ := Quotient.exists_rep p
  exact sem_neg l k
theorem co_C (q : Rat) (k : G) : co (C q) k = if (fun _ => 0) = k then q else 0 := by
  show (if (fun _ => 0) = k then q else 0) + 0 = _
  rw [Rat.add_zero]
theorem C_add (q r : Rat) : C (q + r) = C q + C r := ext fun k => by rw [co_add, co_C, co_C, co_C]; split <;> grind
theorem C_mul (q r : Rat) : C (q * r) = C q * C r := by
  show cls _ = cls (mul _ _)
  congr 1
theorem C_neg (q : Rat) : C (-q) = -C q := ext fun k => by rw [co_neg, co_C, co_C]; split <;> grind
theorem C_zero_mul (p : P) : C 0 * p = C 0 := by
  obtain ⟨l, rfl⟩ := Quotient.exists_rep p
  refine ext fun k => ?_
  show sem (mul [(fun _ => 0, 0)] l) k = _
  rw [sem_mul, co_C]
  simp only [lin]
  split <;> grind
theorem C_one_mul (p : P) : C 1 * p = p := by
  obtain ⟨l, rfl⟩ := Quotient.exists_rep p
  refine ext fun k => ?_
  show sem (mul [(fun _ => 0, 1)] l) k = sem l k
  rw [sem_mul]
  simp only [lin, Int.sub_zero]
  grind
theorem p_add_comm (p q : P) : p + q = q + p := ext fun k => by rw [co_add, co_add, Rat.add_comm]
theorem p_mul_comm (p q : P) : p * q = q * p := by
  obtain ⟨l, rfl⟩ := Quotient.exists_rep p
  obtain ⟨m, rfl⟩ := Quotient.exists_rep q
  exact ext fun k => sem_mul_comm l m k
theorem p_mul_assoc (p q r : P) : p * q * r = p * (q * r) := by
  obtain ⟨l, rfl⟩ := Quotient.exists_rep p
  obtain ⟨m, rfl⟩ := Quotient.exists_rep q
  obtain ⟨n, rfl⟩ := Quotient.exists_rep r
  show cls (mul (mul l m) n) = cls (mul l (mul m n))
  rw [mul_assoc']
theorem p_distrib (p q r : P) : p * (q + r) = p * q + p * r := by
  obtain ⟨l, rfl⟩ := Quotient.exists_rep p
  obtain ⟨m, rfl⟩ := Quotient.exists_rep q
  obtain ⟨n, rfl⟩ := Quotient.exists_rep r
  exact ext fun k => by
    show sem (mul l (m ++ n)) k = co (cls (mul l m) + cls (mul l n)) k
    rw [sem_mul_append, co_add]
    rfl
theorem p_add_zero (p : P) : p + 0 = p := ext fun k => by
  rw [co_add]
  show co p k + co (C ((0 : Nat) : Rat)) k = _
  rw [co_C]
  split <;> grind
instance : Lean.Grind.CommRing P where
  add_zero := p_add_zero
  add_comm := p_add_comm
  add_assoc := fun p q r => ext fun k => by rw [co_add, co_add, co_add, co_add, Rat.add_assoc]
  mul_assoc := p_mul_assoc
  mul_one := fun p => by rw [p_mul_comm]; exact C_one_mul p
  one_mul := fun p => C_one_mul p
  left_distrib := p_distrib
  right_distrib := fun p q r => by rw [p_mul_comm, p_distrib, p_mul_comm r p, p_mul_comm r q]
  zero_mul := fun p => C_zero_mul p
  mul_zero := fun p => by rw [p_mul_comm]; exact C_zero_mul p
  mul_comm := p_mul_comm
  pow_zero := fun p => rfl
  pow_succ := fun p n => rfl
  ofNat_succ := fun n => by
    show C ((n + 1 : Nat) : Rat) = C ((n : Nat) : Rat) + C ((1 : Nat) : Rat)
    rw [← C_add]
    congr 1
    rw [Rat.natCast_add]
  ofNat_eq_natCast := fun n => rfl
  nsmul_eq_natCast_mul := fun n p => rfl
  neg_add_cancel := fun p => ext fun k => by
    rw [co_add, co_neg]
    show _ = co (C ((0 : Nat) : Rat)) k
    rw [co_C]
    split <;> grind
  sub_eq_add_neg := fun p q => rfl
  neg_zsmul := fun i p => by
    show C ((-i : Int) : Rat) * p = -(C (i : Rat) * p)
    have e : C ((-i : Int) : Rat) = -C (i : Rat) := by rw [← C_neg]; congr 1
    rw [e]
    obtain ⟨l, rfl⟩ := Quotient.exists_rep p
    refine ext fun k => ?_
    show sem (mul (neg [(fun _ => 0, (i : Rat))]) l) k = co (-cls (mul [(fun _ => 0, (i : Rat))] l)) k
    rw [co_neg, co_cls, sem_mul, sem_mul, lin_neg]
  zsmul_natCast_eq_nsmul := fun n p => rfl
  intCast_ofNat := fun n => rfl
  intCast_neg := fun i => by
    show C ((-i : Int) : Rat) = -C (i : Rat)
    rw [← C_neg]
    congr 1
end
end Po
set_option Elab.async false
set_option linter.all false
set_option maxRecDepth 100000
set_option maxHeartbeats 4000000
set_option exponentiation.threshold 20000
namespace Q
open PySem PySem.Spec Fw
open L2 (Key)
/-! ## sizes of fractions -/
def Sz (c k : Nat) (q : Rat) : Prop := ∃ A : Int, q = mkRat A (6 ^ k) ∧ A.natAbs ≤ c
theorem six_pos (k : Nat) : (6 ^ k : Nat) ≠ 0 := by have := Nat.pow_pos (n := k) (show 0 < 6 by decide); omega
theorem Sz.nb {c k N : Nat} {q : Rat} (h : Sz c k q) (h1 : c < 2 ^ N) (h2 : 6 ^ k < 2 ^ N) : Nb N q := by
  obtain ⟨A, rfl, hA⟩ := h
  refine ⟨?_, ?_⟩
  · rw [Rat.num_mkRat, if_neg (six_pos k)]
    exact Nat.lt_of_le_of_lt (Nat.le_trans (Int.natAbs_ediv_le_natAbs _ _) hA) h1
  · rw [Rat.den_mkRat, if_neg (six_pos k)]
    exact Nat.lt_of_le_of_lt (Nat.div_le_self _ _) h2
theorem Sz.zero (c k : Nat) : Sz c k 0 := ⟨0, by simp, by simp⟩
theorem Sz.add {c d k : Nat} {q r : Rat} (h : Sz c k q) (h' : Sz d k r) : Sz (c + d) k (q + r) := by
  obtain ⟨A, rfl, hA⟩ := h
  obtain ⟨B, rfl, hB⟩ := h'
  refine ⟨A + B, ?_, Nat.le_trans (Int.natAbs_add_le _ _) (by omega)⟩
  rw [Rat.mkRat_add_mkRat _ _ (six_pos k) (six_pos k), ← Int.add_mul, Rat.mkRat_mul_right (six_pos k)]
theorem Sz.mul {c d k j : Nat} {q r : Rat} (h : Sz c k q) (h' : Sz d j r) : Sz (c * d) (k + j) (q * r) := by
  obtain ⟨A, rfl, hA⟩ := h
  obtain ⟨B, rfl, hB⟩ := h'
  refine ⟨A * B, ?_, ?_⟩
  · rw [Rat.mkRat_mul_mkRat, Nat.pow_add]
  · rw [Int.natAbs_mul]
    exact Nat.mul_le_mul hA hB
theorem Sz.neg {c k : Nat} {q : Rat} (h : Sz c k q) : Sz c k (-q) := by
  obtain ⟨A, rfl, hA⟩ := h
  exact ⟨-A, by rw [Rat.neg_mkRat], by rw [Int.natAbs_neg]; exact hA⟩
theorem Sz.mono {c d k : Nat} {q : Rat} (h : Sz c k q) (le : c ≤ d) : Sz d k q := let ⟨A, h1, h2⟩ := h; ⟨A, h1, Nat.le_trans h2 le⟩
theorem Sz.up {c k : Nat} {q : Rat} (h : Sz c k q) (j : Nat) : Sz (c * 6 ^ j) (k + j) q := by
  obtain ⟨A, rfl, hA⟩ := h
  refine ⟨A * ((6 ^ j : Nat) : Int), ?_, ?_⟩
  · rw [Nat.pow_add, Rat.mkRat_mul_right (six_pos j)]
  · rw [Int.natAbs_mul, Int.natAbs_natCast]
    exact Nat.mul_le_mul_right _ hA
theorem Sz.int (i : Int) {c k : Nat} (h : i.natAbs * 6 ^ k ≤ c) : Sz c k (i : Rat) := by
  refine ⟨i * ((6 ^ k : Nat) : Int), ?_, by rw [Int.natAbs_mul, Int.natAbs_natCast]; exact h⟩
  have := Rat.mkRat_mul_right (n := i) (d := 1) (six_pos k)
  rw [Nat.one_mul] at this
  rw [this]
  exact (Rat.mkRat_self (i : Rat)).symm
/-! ## terms -/
abbrev U := List Int × PyData × Rat
def trm (t : U) : PyData := .tuple [tupI t.1, t.2.1]
def fnE (k : List Int) : Po.G := fun i => k.getD i 0
def mth (l : List U) : Po.L := l.map fun t => (fnE t.1, t.2.2)
theorem mth_append (l m : List U) : mth (l ++ m) = mth l ++ mth m := by unfold mth; rw [List.map_append]
theorem fn_inj {a b : List Int} (hl : a.length = b.length) (h : fnE a = fnE b) : a = b := by
  apply List.ext_getElem hl
  intro i h1 h2
  have := congrFun h i
  unfold fnE at this
  simpa [List.getD_eq_getElem?_getD, h1, h2] using this
theorem fn_zip {a b : List Int} (hl : a.length = b.length) : fnE (a.zipWith (· + ·) b) = fun i => fnE a i + fnE b i := by
  funext i
  unfold fnE
  simp only [List.getD_eq_getElem?_getD, List.getElem?_zipWith]
  by_cases h : i < a.length
  · rw [List.getElem?_eq_getElem h, List.getElem?_eq_getElem (by omega)]
    rfl
  · rw [List.getElem?_eq_none (by omega), List.getElem?_eq_none (by omega)]
    rfl
structure Okt (n c k : Nat) (t : U) : Prop where
  len : t.1.length = n
  nn : ∀ i ∈ t.1, 0 ≤ i
  isr : IsR t.2.1 t.2.2
  sz : Sz c k t.2.2
/-- the sum of the numbers at a row -/
def sumK : List U → List Int → Rat
  | [], _ => 0
  | t :: l, k => (if t.1 = k then t.2.2 else 0) + sumK l k
theorem sumK_snoc (l : List U) (t : U) (k : List Int) : sumK (l ++ [t]) k = sumK l k + if t.1 = k then t.2.2 else 0 := by
  induction l with
  | nil => show _ + (0 : Rat) = 0 + _; rw [Rat.add_zero, Rat.zero_add]
  | cons u l ih => show (if u.1 = k then u.2.2 else 0) + sumK (l ++ [t]) k = (if u.1 = k then u.2.2 else 0) + sumK l k + _; rw [ih, Rat.add_assoc]
theorem sumK_sz {n c k : Nat} {key : List Int} : ∀ {l : List U}, (∀ t ∈ l, Okt n c k t) → Sz (c * l.length) k (sumK l key)
  | [], _ => Sz.zero _ _
  | t :: l, h => by
    have ih := sumK_sz (key := key) (l := l) fun u hu => h u (List.mem_cons_of_mem _ hu)
    have ht := (h t List.mem_cons_self).sz
    have e : c * (t :: l).length = c + c * l.length := by rw [List.length_cons, Nat.mul_add, Nat.mul_one, Nat.add_comm]
    rw [e]
    show Sz _ _ ((if t.1 = key then t.2.2 else 0) + sumK l key)
    refine Sz.add ?_ ih
    split
    · exact ht
    · exact Sz.zero _ _
theorem sum_sem {n : Nat} {key : List Int} (hk : key.length = n) : ∀ {l : List U}, (∀ t ∈ l, t.1.length = n) → Po.sem (mth l) (fnE key) = sumK l key
  | [], _ => rfl
  | t :: l, h => by
    have ih := sum_sem hk (l := l) fun u hu => h u (List.mem_cons_of_mem _ hu)
    have ht := h t List.mem_cons_self
    show Po.sem ((fnE t.1, t.2.2) :: mth l) (fnE key) = (if t.1 = key then t.2.2 else 0) + sumK l key
    rw [Po.sem, ih]
    congr 1
    by_cases q : t.1 = key
    · rw [if_pos q, if_pos (by rw [q])]
    · rw [if_neg q, if_neg (fun z => q (fn_inj (by rw [ht, hk]) z))]
/-! ## the dict of sums -/
def kv (t : U) : List Key × PyData := (keyI t.1, t.2.1)
theorem keyI_inj {a b : List Int} (h : keyI a = keyI b) : a = b := by
  have h1 := intsK_map a
  have h2 := intsK_map b
  unfold keyI at h
  rw [h, h2] at h1
  exact (Option.some.inj h1).symm
theorem find_kv (k : List Int) : ∀ l : List U, findX (l.map kv) (keyI k) = (l.find? fun t => decide (t.1 = k)).map fun t => t.2.1
  | [] => rfl
  | t :: l => by
    unfold findX
    rw [List.map_cons, List.find?_cons, List.find?_cons]
    by_cases q : t.1 = k
    · rw [show decide ((kv t).1 = keyI k) = true by simp [kv, q], show decide (t.1 = k) = true by simp [q]]
      rfl
    · rw [show decide ((kv t).1 = keyI k) = false from decide_eq_false (fun z => q (keyI_inj z)), show decide (t.1 = k) = false by simp [q]]
      exact find_kv k l
def put (l : List U) (k : List Int) (c : PyData) (q : Rat) : List U := if (l.any fun t => decide (t.1 = k)) = true then l.map (fun t => if t.1 = k then (k, c, q) else t) else l ++ [(k, c, q)]
theorem put_kv (l : List U) (k : List Int) (c : PyData) (q : Rat) : putX (l.map kv) (keyI k) c = (put l k c q).map kv := by
  unfold putX put
  have ha : ((l.map kv).any fun z => decide (z.1 = keyI k)) = l.any fun t => decide (t.1 = k) := by
    rw [List.any_map]
    congr 1
    funext t
    show decide (keyI t.1 = keyI k) = decide (t.1 = k)
    by_cases q : t.1 = k
    · rw [q]; simp
    · rw [decide_eq_false q, decide_eq_false fun z => q (keyI_inj z)]
  rw [ha]
  split
  · rw [List.map_map, List.map_map]
    apply List.map_congr_left
    intro t _
    show (if keyI t.1 = keyI k then ((kv t).1, c) else kv t) = kv (if t.1 = k then (k, c, q) else t)
    by_cases z : t.1 = k
    · rw [if_pos (by rw [z]), if_pos z]; unfold kv; rw [z]
    · rw [if_neg (fun y => z (keyI_inj y)), if_neg z]
  · rw [List.map_append]; rfl
structure Acc (done acc : List U) : Prop where
  nd : (acc.map (·.1)).Nodup
  mem : ∀ k, k ∈ acc.map (·.1) ↔ k ∈ done.map (·.1)
  val : ∀ t ∈ acc, t.2.2 = sumK done t.1 ∧ IsR t.2.1 t.2.2
theorem sumK_none {k : List Int} : ∀ {l : List U}, k ∉ l.map (·.1) → sumK l k = 0
  | [], _ => rfl
  | t :: l, h => by
    rw [List.map_cons, List.mem_cons, not_or] at h
    show (if t.1 = k then t.2.2 else 0) + sumK l k = 0
    rw [if_neg (Ne.symm h.1), sumK_none h.2, Rat.add_zero]
theorem Acc.step {done acc : List U} (A : Acc done acc) (t : U) {c : PyData} {q : Rat} (hq : q = sumK done t.1 + t.2.2) (hc : IsR c q) : Acc (done ++ [t]) (put acc t.1 c q) := by
  unfold put
  split
  · rename_i ha
    have e : (acc.map fun u => if u.1 = t.1 then (t.1, c, q) else u).map (·.1) = acc.map (·.1) := by
      rw [List.map_map]
      apply List.map_congr_left
      intro u _
      simp only [Function.comp]
      split
      · rename_i h; exact h.symm
      · rfl
    have hm : t.1 ∈ acc.map (·.1) := by
      obtain ⟨u, hu, h⟩ := List.any_eq_true.mp ha
      exact List.mem_map.mpr ⟨u, hu, of_decide_eq_true h⟩
    refine ⟨by rw [e]; exact A.nd, fun k => ?_, fun u hu => ?_⟩
    · rw [e, A.mem, List.map_append, List.mem_append]
      constructor
      · exact .inl
      · rintro (h | h)
        · exact h
        · simp at h; rw [h]; exact (A.mem _).mp hm
    · obtain ⟨v, hv, rfl⟩ := List.mem_map.mp hu
      split
      · refine ⟨?_, hc⟩
        show q = _
        rw [sumK_snoc, if_pos rfl]
        exact hq
      · rename_i h
        obtain ⟨h1, h2⟩ := A.val v hv
        refine ⟨?_, h2⟩
        rw [sumK_snoc, if_neg (Ne.symm h), Rat.add_zero]
        exact h1
  · rename_i ha
    have hm : t.1 ∉ acc.map (·.1) := fun h => by
      obtain ⟨u, hu, e⟩ := List.mem_map.mp h
      exact ha (List.any_eq_true.mpr ⟨u, hu, decide_eq_true e⟩)
    refine ⟨?_, fun k => ?_, fun u hu => ?_⟩
    · rw [List.map_append, List.nodup_append]
      refine ⟨A.nd, by simp, fun a ha b hb => ?_⟩
      simp at hb
      subst hb
      exact fun e => hm (e ▸ ha)
    · rw [List.map_append, List.mem_append, A.mem, List.map_append, List.mem_append]
      simp
    · rcases List.mem_append.mp hu with h | h
      · obtain ⟨h1, h2⟩ := A.val u h
        refine ⟨?_, h2⟩
        rw [sumK_snoc, if_neg (fun e => hm (List.mem_map.mpr ⟨u, h, e.symm⟩)), Rat.add_zero]
        exact h1
      · simp at h
        subst h
        refine ⟨?_, hc⟩
        show q = _
        rw [sumK_snoc, if_pos rfl]
        exact hq
end Q
set_option Elab.async false
set_option linter.all false
set_option maxRecDepth 100000
set_option maxHeartbeats 4000000
set_option exponentiation.threshold 20000
namespace Q
open PySem PySem.Spec Fw
open L2 (Key)
/-! ## dict operations told -/
theorem get_last {st : Sto} {o : Ob} : (st ++ [o])[st.length]? = some o := by
  rw [List.getElem?_append_right (Nat.le_refl _)]
  simp
theorem set_last {st : Sto} {o o' : Ob} : (st ++ [o]).set st.length o' = st ++ [o'] := by
  rw [List.set_append_right _ _ (Nat.le_refl _)]
  simp
theorem hasD_ev {st : Sto} {n : Nat} {kvs : List (List Key × PyData)} {k : List Int} (h : st[n]? = some (.dT kvs)) (hk : k ≠ []) : hasD (.p (tupI k)) (.loc n) st = some (.p (.bool (findX kvs (keyI k)).isSome), st) := by
  show (match st[n]?, asTI (tupI k) with
    | some (.dT kvs), some ks => if ks ≠ [] then some (D.p (.bool (findX kvs (keyI ks)).isSome), st) else none
    | _, _ => none) = _
  rw [h, asTI_tupI]
  exact if_pos hk
theorem getD_ev {st : Sto} {n : Nat} {kvs : List (List Key × PyData)} {k : List Int} {x : PyData} (h : st[n]? = some (.dT kvs)) (hk : k ≠ []) (hx : findX kvs (keyI k) = some x) : getD (.loc n) (.p (tupI k)) st = some (.p x, st) := by
  show (match st[n]?, asTI (tupI k) with
    | some (.dT kvs), some ks => if ks ≠ [] then (findX kvs (keyI ks)).map fun x => (D.p x, st) else none
    | _, _ => none) = _
  rw [h, asTI_tupI]
  show (if k ≠ [] then (findX kvs (keyI k)).map (fun x => (D.p x, st)) else none) = _
  rw [if_pos hk, hx]
  rfl
theorem putD_ev {st : Sto} {n : Nat} {kvs : List (List Key × PyData)} {k : List Int} {x : PyData} (h : st[n]? = some (.dT kvs)) (hk : k ≠ []) (hl : kvs.length ≤ 1000000) : putD (.loc n) (.p (tupI k)) (.p x) st = some (st.set n (.dT (putX kvs (keyI k) x))) := by
  show (match st[n]?, asTI (tupI k) with
    | some (.dT kvs), some ks => if ks ≠ [] ∧ kvs.length ≤ 1000000 then some (st.set n (.dT (putX kvs (keyI ks) x))) else none
    | _, _ => none) = _
  rw [h, asTI_tupI]
  exact if_pos ⟨hk, hl⟩
theorem dKeys_of : ∀ {l : List U}, dKeys (l.map kv) = some (l.map (·.1))
  | [] => rfl
  | t :: l => by
    rw [List.map_cons]
    unfold dKeys
    rw [show intsK (kv t).1 = some t.1 from intsK_map t.1, dKeys_of]
    rfl
theorem sortK_ev {st : Sto} {n : Nat} {kvs : List (List Key × PyData)} {ks : List (List Int)} {o : Option Bool} (h : st[n]? = some (.dT kvs)) (hk : dKeys kvs = some ks) (hok : okKD ks = true) : sortK o (.loc n) st = some (.p (.list ((srtK (rvR o) ks).map tupI)), st) := by
  unfold sortK
  simp only [h, hk, if_pos hok]
theorem sortG_ev {st : Sto} {n : Nat} {kvs : List (List Key × PyData)} {ks : List (List Int)} (h : st[n]? = some (.dT kvs)) (hk : dKeys kvs = some ks) (hok : okKD ks = true) : sortG (.loc n) st = some (.p (.list ((canon ks).map tupI)), st) := by
  unfold sortG
  simp only [h]
  rw [sortK_ev h hk hok]
  rfl
/-! ## what is walked -/
def SrcD (d : D) (st : Sto) (xs : List PyData) : Prop := d = .p (.tuple xs) ∨ d = .p (.list xs) ∨ ∃ n, d = .loc n ∧ st[n]? = some (.lst (xs.map .p))
theorem iSeq_src {d : D} {st : Sto} {xs : List PyData} (h : SrcD d st xs) {i : Nat} {env : Env'} {e : Sto} (hi : env[i]? = some (some d)) : ∃ src, iSeq (mVar i) env (st ++ e) = .ok src (st ++ e) ∧ ∀ e', cont src (st ++ e') = some (xs.map .p) := by
  rcases h with rfl | rfl | ⟨n, rfl, hn⟩
  · exact ⟨_, iSeq_tup hi, fun _ => rfl⟩
  · exact ⟨_, iSeq_lst hi, fun _ => rfl⟩
  · have hl : n < st.length := (List.getElem?_eq_some_iff.mp hn).1
    have h' : ∀ e' : Sto, (st ++ e')[n]? = some (.lst (xs.map .p)) := fun e' => by rw [List.getElem?_append_left hl]; exact hn
    refine ⟨.loc n, iSeq_loc hi (h' e), fun e' => ?_⟩
    show (match (st ++ e')[n]? with
      | some (.lst ds) => some ds
      | _ => none) = _
    rw [h' e']
/-! ## the loop -/
def gBody (add : List D → M D) : MS := sSeq (sPutD (mVar 1) (mVar 2) (mIf (tB (m2 (mVar 2) (mVar 1) hasD)) (mCall (aCons (m2 (mVar 1) (mVar 2) getD) (aCons (mVar 3) (aNil))) (sized 2 add)) (mVar 3))) (sNil)
def AddOk (add : List D → M D) : Prop := ∀ (x y : PyData) (q r : Rat) (N M : Nat) (st : Sto), IsR x q → IsR y r → Nb N q → Nb M r → N + M ≤ 9000 → add [.p x, .p y] st = .ok (.p (rat (q + r))) st
theorem g_step {add : List D → M D} (hadd : AddOk add) {d : D} {st : Sto} {a b : Option D} {done acc : List U} {t : U} {n c k : Nat} (hn : 1 ≤ n) (A : Acc done acc) (hd : ∀ u ∈ done, Okt n c k u) (ht : Okt n c k t) (hb : c * (done.length + 1) < 2 ^ 4000) (hk : 6 ^ k < 2 ^ 4000) (hl : acc.length ≤ 1000000) :
    ∃ acc', gBody add [some d, some (.loc st.length), some (.p (tupI t.1)), some (.p t.2.1)] (st ++ [.dT (acc.map kv)]) = .nx [some d, some (.loc st.length), some (.p (tupI t.1)), some (.p t.2.1)] (st ++ [.dT (acc'.map kv)]) ∧ Acc (done ++ [t]) acc' ∧ acc'.length ≤ acc.length + 1 := by
  have hne : t.1 ≠ [] := fun e => by have := ht.len; rw [e] at this; simp at this; omega
  have hst : (st ++ [Ob.dT (acc.map kv)])[st.length]? = some (.dT (acc.map kv)) := get_last
  have hhas := hasD_ev hst hne
  have hput := fun x => putD_ev (x := x) hst hne (by simpa using hl)
  have hlen : ∀ (c' : PyData) (q' : Rat), (put acc t.1 c' q').length ≤ acc.length + 1 := fun c' q' => by
    unfold put
    split <;> simp
  have hmul : c * done.length ≤ c * (done.length + 1) := Nat.mul_le_mul_left _ (by omega)
  have hmul1 : c ≤ c * (done.length + 1) := Nat.le_mul_of_pos_right _ (by omega)
  rw [find_kv] at hhas
  cases hf : acc.find? (fun u => decide (u.1 = t.1)) with
  | none =>
    rw [hf] at hhas
    have hk0 : sumK done t.1 = 0 := sumK_none fun h => by
      obtain ⟨u, hu, e⟩ := List.mem_map.mp ((A.mem t.1).mpr h)
      have := List.find?_eq_none.mp hf u hu
      simp at this
      exact this e
    refine ⟨put acc t.1 t.2.1 t.2.2, ?_, A.step t (by rw [hk0, Rat.zero_add]) ht.isr, hlen _ _⟩
    have hh : hasD (.p (tupI t.1)) (.loc st.length) (st ++ [Ob.dT (acc.map kv)]) = some (.p (.bool false), st ++ [Ob.dT (acc.map kv)]) := hhas
    unfold gBody sPutD
    simp [hh, hput]
    exact put_kv acc t.1 t.2.1 t.2.2
  | some u =>
    rw [hf] at hhas
    have hu1 : u.1 = t.1 := by have q := List.find?_some hf; simpa using q
    obtain ⟨v1, v2⟩ := A.val u (List.mem_of_find?_eq_some hf)
    rw [hu1] at v1
    have hget : getD (.loc st.length) (.p (tupI t.1)) (st ++ [Ob.dT (acc.map kv)]) = some (.p u.2.1, st ++ [Ob.dT (acc.map kv)]) := getD_ev hst hne (by rw [find_kv, hf]; rfl)
    have s1 : Sz (c * done.length) k u.2.2 := by rw [v1]; exact sumK_sz hd
    have ha := hadd u.2.1 t.2.1 u.2.2 t.2.2 4000 4000 (st ++ [Ob.dT (acc.map kv)]) v2 ht.isr (s1.nb (by omega) hk) (ht.sz.nb (by omega) hk) (by decide)
    refine ⟨put acc t.1 (rat (u.2.2 + t.2.2)) (u.2.2 + t.2.2), ?_, A.step t (by rw [v1]) (IsR.rat _), hlen _ _⟩
    have hh : hasD (.p (tupI t.1)) (.loc st.length) (st ++ [Ob.dT (acc.map kv)]) = some (.p (.bool true), st ++ [Ob.dT (acc.map kv)]) := hhas
    unfold gBody sPutD
    simp [hh, hget, ha, hput]
    exact put_kv acc t.1 _ _
theorem g_loop {add : List D → M D} (hadd : AddOk add) {d : D} {st : Sto} {l : List U} {n c k : Nat} (hs : SrcD d st (l.map trm)) (hn : 1 ≤ n) (ht : ∀ t ∈ l, Okt n c k t) (hb : c * l.length < 2 ^ 4000) (hk : 6 ^ k < 2 ^ 4000) (hl : l.length ≤ 1000000) :
    ∃ a b acc, sFor (iSeq (mVar 0)) (.tp (.cons (.nm 2) (.cons (.nm 3) .nil))) (gBody add) [some d, some (.loc st.length), none, none] (st ++ [.dT []]) = .nx [some d, some (.loc st.length), a, b] (st ++ [.dT (acc.map kv)]) ∧ Acc l acc ∧ acc.length ≤ l.length := by
  obtain ⟨src, h1, h2⟩ := iSeq_src hs (i := 0) (env := [some d, some (.loc st.length), none, none]) (e := [.dT []]) rfl
  obtain ⟨env', st', h3, a, b, acc, rfl, rfl, h4, h5⟩ := for_inv (g := .tp (.cons (.nm 2) (.cons (.nm 3) .nil))) (b := gBody add) (ds := (l.map trm).map .p)
    (fun i env s => ∃ a b acc, env = [some d, some (.loc st.length), a, b] ∧ s = st ++ [.dT (acc.map kv)] ∧ Acc (l.take i) acc ∧ acc.length ≤ i) h1
    ⟨none, none, [], rfl, rfl, ⟨List.nodup_nil, fun k => by simp, fun t h => by cases h⟩, Nat.le_refl _⟩ (fun i env s ⟨a, b, acc, _, e, _⟩ => by rw [e]; exact h2 _) fun i x env s hx ⟨a, b, acc, e1, e2, A, hla⟩ => by
      rw [List.map_map, List.getElem?_map] at hx
      cases hi : l[i]? with
      | none => rw [hi] at hx; cases hx
      | some t =>
        rw [hi] at hx
        cases hx
        have hil : i < l.length := (List.getElem?_eq_some_iff.mp hi).1
        have htm : t ∈ l := List.mem_of_getElem? hi
        have htk : l.take (i + 1) = l.take i ++ [t] := by
          rw [List.take_add_one, hi]
          rfl
        obtain ⟨acc', g1, g2, g3⟩ := g_step hadd (d := d) (st := st) (a := a) (b := b) hn A (fun u hu => ht u (List.mem_of_mem_take hu)) (ht t htm) (Nat.lt_of_le_of_lt (Nat.mul_le_mul_left _ (by rw [List.length_take]; omega)) hb) hk (by omega)
        subst e1 e2
        refine ⟨[some d, some (.loc st.length), some (.p (tupI t.1)), some (.p t.2.1)], by simp [trm], _, _, .inl g1, _, _, acc', rfl, rfl, ?_, by omega⟩
        rw [htk]
        exact g2
  refine ⟨a, b, acc, h3, ?_, by simpa using h5⟩
  have e : l.take ((l.map trm).map D.p).length = l := by simp
  rw [e] at h4
  exact h4
end Q
set_option Elab.async false
set_option linter.all false
set_option maxRecDepth 100000
set_option maxHeartbeats 4000000
set_option exponentiation.threshold 20000
namespace Q
open PySem PySem.Spec Fw
open L2 (Key)
/-! ## polynomials in their one form -/
structure PolyL (n c k : Nat) (l : List U) : Prop where
  ok : ∀ t ∈ l, Okt n c k t
  nz : ∀ t ∈ l, t.2.2 ≠ 0
  desc : (l.map (·.1)).Pairwise fun a b => ltI b a = true
def PolyD (n c k T : Nat) (d : PyData) (p : Po.P) : Prop := ∃ l : List U, PolyL n c k l ∧ d = .tuple (l.map trm) ∧ l.length ≤ T ∧ Po.cls (mth l) = p
theorem PolyL.nd {n c k : Nat} {l : List U} (h : PolyL n c k l) : (l.map (·.1)).Nodup := h.desc.imp fun {a b} q e => by
  rw [e, ltI_irr] at q
  cases q
theorem sumK_nd : ∀ {l : List U}, (l.map (·.1)).Nodup → ∀ t ∈ l, sumK l t.1 = t.2.2
  | [], _, t, h => by cases h
  | u :: l, hn, t, h => by
    rw [List.map_cons, List.nodup_cons] at hn
    show (if u.1 = t.1 then u.2.2 else 0) + sumK l t.1 = t.2.2
    rcases List.mem_cons.mp h with e | h
    · subst e
      rw [if_pos rfl, sumK_none hn.1, Rat.add_zero]
    · have hne : u.1 ≠ t.1 := fun e => hn.1 (by rw [e]; exact List.mem_map.mpr ⟨t, h, rfl⟩)
      rw [if_neg hne, Rat.zero_add]
      exact sumK_nd hn.2 t h
theorem sem_out {g : Po.G} : ∀ {l : List U}, (∀ t ∈ l, fnE t.1 ≠ g) → Po.sem (mth l) g = 0
  | [], _ => rfl
  | t :: l, h => by
    show Po.sem ((fnE t.1, t.2.2) :: mth l) g = 0
    rw [Po.sem, sem_out fun u hu => h u (List.mem_cons_of_mem _ hu), if_neg (h t List.mem_cons_self), Rat.add_zero]
/-- the same sums at all rows: the same polynomial -/
theorem cls_sum {n : Nat} {l m : List U} (hl : ∀ t ∈ l, t.1.length = n) (hm : ∀ t ∈ m, t.1.length = n) (h : ∀ key : List Int, key.length = n → sumK l key = sumK m key) : Po.cls (mth l) = Po.cls (mth m) := by
  refine Po.cls_eq.mpr fun g => ?_
  by_cases q : ∃ key : List Int, key.length = n ∧ fnE key = g
  · obtain ⟨key, hk, rfl⟩ := q
    rw [sum_sem hk hl, sum_sem hk hm, h key hk]
  · rw [sem_out fun t ht e => q ⟨t.1, hl t ht, e⟩, sem_out fun t ht e => q ⟨t.1, hm t ht, e⟩]
/-- one form alone -/
theorem PolyL.uniq {n c k c' k' : Nat} {l m : List U} (hl : PolyL n c k l) (hm : PolyL n c' k' m) (h : Po.cls (mth l) = Po.cls (mth m)) : l.map (fun t => (t.1, t.2.2)) = m.map fun t => (t.1, t.2.2) := by
  have hs : ∀ key : List Int, key.length = n → sumK l key = sumK m key := fun key hk => by
    rw [← sum_sem hk fun t ht => (hl.ok t ht).len, ← sum_sem hk fun t ht => (hm.ok t ht).len]
    exact Po.cls_eq.mp h _
  have sub : ∀ {l m : List U} {c k c' k' : Nat}, PolyL n c k l → PolyL n c' k' m → (∀ key : List Int, key.length = n → sumK l key = sumK m key) → ∀ t ∈ l, t.1 ∈ m.map (·.1) := fun {l m c k c' k'} hl hm hs t ht => by
    refine Classical.byContradiction fun z => ?_
    have := hs t.1 (hl.ok t ht).len
    rw [sumK_none z, sumK_nd hl.nd t ht] at this
    exact hl.nz t ht this
  have ek : l.map (·.1) = m.map (·.1) := by
    have r := asc_uniq (l := (l.map (·.1)).reverse) (m := (m.map (·.1)).reverse) (List.pairwise_reverse.mpr hl.desc) (List.pairwise_reverse.mpr hm.desc) fun z => by
      rw [List.mem_reverse, List.mem_reverse]
      constructor
      · intro hz
        obtain ⟨t, ht, rfl⟩ := List.mem_map.mp hz
        exact sub hl hm hs t ht
      · intro hz
        obtain ⟨t, ht, rfl⟩ := List.mem_map.mp hz
        exact sub hm hl (fun key hk => (hs key hk).symm) t ht
    have := congrArg List.reverse r
    rwa [List.reverse_reverse, List.reverse_reverse] at this
  have fe : ∀ {l : List U} {c k : Nat}, PolyL n c k l → l.map (fun t => (t.1, t.2.2)) = (l.map (·.1)).map fun key => (key, sumK l key) := fun {l c k} h => by
    rw [List.map_map]
    apply List.map_congr_left
    intro t ht
    show (t.1, t.2.2) = (t.1, sumK l t.1)
    rw [sumK_nd h.nd t ht]
  rw [fe hl, fe hm, ek]
  apply List.map_congr_left
  intro key hk
  obtain ⟨t, ht, rfl⟩ := List.mem_map.mp hk
  rw [hs t.1 (hm.ok t ht).len]
/-! ## the end of gathering -/
def lk (acc : List U) (k : List Int) : U := (acc.find? fun u => decide (u.1 = k)).getD (k, .none, 0)
theorem lk_mem {acc : List U} {k : List Int} (h : k ∈ acc.map (·.1)) : lk acc k ∈ acc ∧ (lk acc k).1 = k ∧ acc.find? (fun u => decide (u.1 = k)) = some (lk acc k) := by
  unfold lk
  cases hf : acc.find? (fun u => decide (u.1 = k)) with
  | none =>
    obtain ⟨u, hu, e⟩ := List.mem_map.mp h
    have := List.find?_eq_none.mp hf u hu
    simp at this
    exact absurd e this
  | some u => exact ⟨List.mem_of_find?_eq_some hf, by have q := List.find?_some hf; simpa using q, rfl⟩
def resL (l acc : List U) : List U := (((canon (acc.map (·.1))).reverse).filter fun k => decide (sumK l k ≠ 0)).map (lk acc)
theorem res_ok {l acc : List U} {n c k : Nat} (A : Acc l acc) (ht : ∀ t ∈ l, Okt n c k t) : PolyL n (c * l.length) k (resL l acc) ∧ Po.cls (mth (resL l acc)) = Po.cls (mth l) ∧ (resL l acc).length ≤ acc.length := by
  have hkm : ∀ key, key ∈ ((canon (acc.map (·.1))).reverse).filter (fun k => decide (sumK l k ≠ 0)) → key ∈ acc.map (·.1) ∧ sumK l key ≠ 0 := fun key h => by
    obtain ⟨h1, h2⟩ := List.mem_filter.mp h
    exact ⟨mem_canon.mp (List.mem_reverse.mp h1), of_decide_eq_true h2⟩
  have keys : (resL l acc).map (·.1) = ((canon (acc.map (·.1))).reverse).filter fun k => decide (sumK l k ≠ 0) := by
    unfold resL
    rw [List.map_map]
    refine (List.map_congr_left (g := id) fun key hk => ?_).trans (List.map_id _)
    exact (lk_mem (hkm key hk).1).2.1
  have klen : ∀ key ∈ acc.map (·.1), key.length = n ∧ ∀ i ∈ key, 0 ≤ i := fun key hk => by
    obtain ⟨t, h1, rfl⟩ := List.mem_map.mp ((A.mem key).mp hk)
    exact ⟨(ht t h1).len, (ht t h1).nn⟩
  have ok : ∀ t ∈ resL l acc, Okt n (c * l.length) k t ∧ t.2.2 ≠ 0 ∧ t.2.2 = sumK l t.1 := fun t h => by
    obtain ⟨key, hk, rfl⟩ := List.mem_map.mp h
    obtain ⟨h1, h2⟩ := hkm key hk
    obtain ⟨g1, g2, _⟩ := lk_mem h1
    obtain ⟨v1, v2⟩ := A.val _ g1
    rw [g2] at v1
    refine ⟨⟨by rw [g2]; exact (klen key h1).1, by rw [g2]; exact (klen key h1).2, v2, by rw [v1]; exact sumK_sz ht⟩, by rw [v1]; exact h2, by rw [v1, g2]⟩
  have P : PolyL n (c * l.length) k (resL l acc) := ⟨fun t h => (ok t h).1, fun t h => (ok t h).2.1, by
    rw [keys]
    exact (List.pairwise_reverse.mpr (asc_canon _)).filter _⟩
  refine ⟨P, cls_sum (n := n) (fun t h => (ok t h).1.len) (fun t h => (ht t h).len) fun key hk => ?_, ?_⟩
  · by_cases q : key ∈ (resL l acc).map (·.1)
    · obtain ⟨t, h1, rfl⟩ := List.mem_map.mp q
      rw [sumK_nd P.nd t h1, (ok t h1).2.2]
    · rw [sumK_none q]
      rw [keys, List.mem_filter, List.mem_reverse, mem_canon, decide_eq_true_eq] at q
      by_cases z : sumK l key = 0
      · exact z.symm
      · have : key ∉ l.map (·.1) := fun h => q ⟨(A.mem key).mpr h, z⟩
        exact (sumK_none this).symm
  · have hl : ∀ ls : List (List Int), (canon ls).length ≤ ls.length := fun ls => by
      induction ls with
      | nil => simp [canon]
      | cons y r ih =>
        have hi : ∀ (x : List Int) (l : List (List Int)), (ins x l).length ≤ l.length + 1 := fun x l => by
          induction l with
          | nil => simp [ins]
          | cons y r ih2 =>
            unfold ins
            split
            · simp
            · split
              · simp
              · simp only [List.length_cons]; omega
        have := hi y (canon r)
        show (ins y (canon r)).length ≤ _
        simp only [List.length_cons]
        omega
    unfold resL
    rw [List.length_map]
    refine Nat.le_trans (List.length_filter_le _ _) ?_
    rw [List.length_reverse]
    refine Nat.le_trans (hl _) ?_
    rw [List.length_map]
    exact Nat.le_refl _
/-- a fraction against 0 -/
theorem eqv_zero (q : Rat) : PyData.eqv (rat q) (.tuple [.int 0, .int 1]) = decide (q = 0) := by
  show (q.num == 0 && ((q.den : Int) == 1 && PyData.eqvAll [] [])) = _
  by_cases h : q = 0
  · subst h; decide
  · have hn : q.num ≠ 0 := fun e => h (Rat.num_eq_zero.mp e)
    rw [show (q.num == 0) = false by simpa using hn, decide_eq_false h, Bool.false_and]
theorem okD_rat (q : Rat) (y : PyData) : okD (rat q) y = true := by
  have : (rat q).depth ≤ 64 := by
    show PyData.depthAll [.int q.num, .int q.den] + 1 ≤ 64
    have := depth_ints [q.num, (q.den : Int)]
    have e : PyData.depthAll [.int q.num, .int q.den] = PyData.depthAll ([q.num, (q.den : Int)].map PyData.int) := rfl
    omega
  exact decide_eq_true (Nat.le_trans (Nat.min_le_left _ _) this)
theorem neP_zero {x : PyData} {q : Rat} (h : IsR x q) : neP x (mkD [0, 1]) = some (.bool (decide (q ≠ 0))) := by
  unfold neP
  rw [h.nm]
  show neQ (rat q) (.tuple [.int 0, .int 1]) = _
  unfold neQ
  rw [if_pos (okD_rat _ _), eqv_zero]
  by_cases z : q = 0 <;> simp [z]
theorem eqP_zero {x : PyData} {q : Rat} (h : IsR x q) : eqP x (mkD [0, 1]) = some (.bool (decide (q = 0))) := by
  unfold eqP
  rw [h.nm]
  show eqQ (rat q) (.tuple [.int 0, .int 1]) = _
  unfold eqQ
  rw [if_pos (okD_rat _ _), eqv_zero]
theorem okKD_acc {acc l : List U} {n c k : Nat} (A : Acc l acc) (ht : ∀ t ∈ l, Okt n c k t) (hn : 1 ≤ n) (hl : acc.length ≤ 1000000) : okKD (acc.map (·.1)) = true := by
  unfold okKD
  rw [Bool.and_eq_true, List.all_eq_true]
  refine ⟨decide_eq_true (by simpa using hl), fun key hk => ?_⟩
  obtain ⟨t, h1, rfl⟩ := List.mem_map.mp ((A.mem key).mp hk)
  have := (ht t h1).len
  cases q : t.1 with
  | nil => rw [q] at this; simp at this; omega
  | cons a b => rfl
/-- gathered -/
theorem e_gathered {d : D} {st : Sto} {l : List U} {n c k : Nat} (hs : SrcD d st (l.map trm)) (hn : 1 ≤ n) (ht : ∀ t ∈ l, Okt n c k t) (hb : c * l.length < 2 ^ 4000) (hk : 6 ^ k < 2 ^ 4000) (hl : l.length ≤ 1000000) :
    ∃ r, φ_gathered [d] st = .ok (.p r) st ∧ PolyD n (c * l.length) k l.length r (Po.cls (mth l)) := by
  obtain ⟨a, b, acc, h1, A, hla⟩ := g_loop (add := φ_add_ratios) (fun x y q r N M st h1 h2 h3 h4 h5 => e_addR h1 h2 h3 h4 h5) hs hn ht hb hk hl
  obtain ⟨P, e, hlen⟩ := res_ok A ht
  refine ⟨.tuple ((resL l acc).map trm), ?_, resL l acc, P, rfl, by omega, e⟩
  have hst : (st ++ [Ob.dT (acc.map kv)])[st.length]? = some (.dT (acc.map kv)) := get_last
  have hsrt : sortK (some true) (.loc st.length) (st ++ [Ob.dT (acc.map kv)]) = some (.p (.list (((canon (acc.map (·.1))).reverse).map tupI)), st ++ [Ob.dT (acc.map kv)]) := sortK_ev hst dKeys_of (okKD_acc A ht hn (by omega))
  have hcomp : mComp false (iSeq (mL (aCons (mVar 1) (aNil)) (gL1 (sortK (some true))))) (.nm 2) [2] (tB (m2 (m2 (mVar 1) (mVar 2) getD) (mC (mkD [0, 1])) (lift2 3 neP))) (mL (aCons (mVar 2) (aCons (m2 (mVar 1) (mVar 2) getD) (aNil))) gTupD) [some d, some (.loc st.length), a, b] (st ++ [Ob.dT (acc.map kv)]) = .ok (.p (.list ((resL l acc).map trm))) (st ++ [Ob.dT (acc.map kv)]) := by
    have := comp_data (mi := iSeq (mL (aCons (mVar 1) (aNil)) (gL1 (sortK (some true))))) (g := .nm 2) (own := [2]) (t := tB (m2 (m2 (mVar 1) (mVar 2) getD) (mC (mkD [0, 1])) (lift2 3 neP))) (m := mL (aCons (mVar 2) (aCons (m2 (mVar 1) (mVar 2) getD) (aNil))) gTupD) (env := [some d, some (.loc st.length), a, b]) (st := st ++ [Ob.dT (acc.map kv)]) (st0 := st ++ [Ob.dT (acc.map kv)])
      (xs := (canon (acc.map (·.1))).reverse) (e := tupI) (p := fun key => decide (sumK l key ≠ 0)) (h := fun key => trm (lk acc key)) ?_ ?_ ?_
    · rw [this]
      unfold resL
      rw [List.map_map]
      rfl
    · have hm : mL (aCons (mVar 1) (aNil)) (gL1 (sortK (some true))) [some d, some (.loc st.length), a, b] (st ++ [Ob.dT (acc.map kv)]) = .ok (.p (.list (((canon (acc.map (·.1))).reverse).map tupI))) (st ++ [Ob.dT (acc.map kv)]) := by simp [hsrt]
      rw [iSeq_of hm (.inr rfl), List.map_map]
      rfl
    · have : (canon (acc.map (·.1))).reverse.length ≤ 1000000 := by
        have q := A.nd
        have : (canon (acc.map (·.1))).length ≤ (acc.map (·.1)).length := by
          have hsub : (canon (acc.map (·.1))) ⊆ acc.map (·.1) := fun z hz => mem_canon.mp hz
          have nd : (canon (acc.map (·.1))).Nodup := (asc_canon _).imp fun {a b} q e => by
            rw [e, ltI_irr] at q
            cases q
          exact List.Nodup.length_le_of_subset nd hsub
        rw [List.length_reverse]
        rw [List.length_map] at this
        omega
      exact this
    · intro key hkey
      have hkm : key ∈ acc.map (·.1) := mem_canon.mp (List.mem_reverse.mp hkey)
      obtain ⟨g1, g2, g3⟩ := lk_mem hkm
      obtain ⟨v1, v2⟩ := A.val _ g1
      rw [g2] at v1
      have hne : key ≠ [] := fun e0 => by
        obtain ⟨t, h1, h2⟩ := List.mem_map.mp ((A.mem key).mp hkm)
        have := (ht t h1).len
        rw [h2, e0] at this
        simp at this
        omega
      have hget : getD (.loc st.length) (.p (tupI key)) (st ++ [Ob.dT (acc.map kv)]) = some (.p (lk acc key).2.1, st ++ [Ob.dT (acc.map kv)]) := getD_ev hst hne (by rw [find_kv, g3]; rfl)
      have hz := neP_zero v2
      have htr : trm (lk acc key) = .tuple [tupI key, (lk acc key).2.1] := by unfold trm; rw [g2]
      refine turn_if (env1 := [some d, some (.loc st.length), some (.p (tupI key)), b]) (by simp [wipeE]) ?_ fun _ => ?_
      · simp [hget, hz, v1]
      · simp [hget, htr]
  unfold gBody at h1
  simp [φ_gathered, N_gathered, m_gathered, h1, hcomp]
/-- the law's gathering -/
theorem e_lgather {d : D} {st : Sto} {l : List U} {n c k : Nat} (hs : SrcD d st (l.map trm)) (hn : 1 ≤ n) (ht : ∀ t ∈ l, Okt n c k t) (hb : c * l.length < 2 ^ 4000) (hk : 6 ^ k < 2 ^ 4000) (hl : l.length ≤ 1000000) :
    ∃ r, φ__law_gather [d] st = .ok (.p r) st ∧ PolyD n (c * l.length) k l.length r (Po.cls (mth l)) := by
  obtain ⟨a, b, acc, h1, A, hla⟩ := g_loop (add := φ__law_plus) (fun x y q r N M st h1 h2 h3 h4 h5 => e_lplus h1 h2 h3 h4 h5) hs hn ht hb hk hl
  obtain ⟨P, e, hlen⟩ := res_ok A ht
  refine ⟨.tuple ((resL l acc).map trm), ?_, resL l acc, P, rfl, by omega, e⟩
  have hst : (st ++ [Ob.dT (acc.map kv)])[st.length]? = some (.dT (acc.map kv)) := get_last
  have hsrt : sortG (.loc st.length) (st ++ [Ob.dT (acc.map kv)]) = some (.p (.list ((canon (acc.map (·.1))).map tupI)), st ++ [Ob.dT (acc.map kv)]) := sortG_ev hst dKeys_of (okKD_acc A ht hn (by omega))
  have hcomp : mComp false (iSeq (m1 (mL (aCons (mVar 1) (aNil)) (gL1 sortG)) (lift1 1 revP))) (.nm 2) [2] (tB (m2 (m2 (m2 (mVar 1) (mVar 2) getD) (mC (.int 0)) ixG) (mC (.int 0)) (lift2 3 neP))) (mL (aCons (mVar 2) (aCons (m2 (mVar 1) (mVar 2) getD) (aNil))) gTupD) [some d, some (.loc st.length), a, b] (st ++ [Ob.dT (acc.map kv)]) = .ok (.p (.list ((resL l acc).map trm))) (st ++ [Ob.dT (acc.map kv)]) := by
    have := comp_data (mi := iSeq (m1 (mL (aCons (mVar 1) (aNil)) (gL1 sortG)) (lift1 1 revP))) (g := .nm 2) (own := [2]) (t := tB (m2 (m2 (m2 (mVar 1) (mVar 2) getD) (mC (.int 0)) ixG) (mC (.int 0)) (lift2 3 neP))) (m := mL (aCons (mVar 2) (aCons (m2 (mVar 1) (mVar 2) getD) (aNil))) gTupD) (env := [some d, some (.loc st.length), a, b]) (st := st ++ [Ob.dT (acc.map kv)]) (st0 := st ++ [Ob.dT (acc.map kv)])
      (xs := (canon (acc.map (·.1))).reverse) (e := tupI) (p := fun key => decide (sumK l key ≠ 0)) (h := fun key => trm (lk acc key)) ?_ ?_ ?_
    · rw [this]
      unfold resL
      rw [List.map_map]
      rfl
    · have hm : m1 (mL (aCons (mVar 1) (aNil)) (gL1 sortG)) (lift1 1 revP) [some d, some (.loc st.length), a, b] (st ++ [Ob.dT (acc.map kv)]) = .ok (.p (.list (((canon (acc.map (·.1))).reverse).map tupI))) (st ++ [Ob.dT (acc.map kv)]) := by simp [hsrt, revP]
      rw [iSeq_of hm (.inr rfl), List.map_map]
      rfl
    · have : (canon (acc.map (·.1))).reverse.length ≤ 1000000 := by
        have q := A.nd
        have : (canon (acc.map (·.1))).length ≤ (acc.map (·.1)).length := by
          have hsub : (canon (acc.map (·.1))) ⊆ acc.map (·.1) := fun z hz => mem_canon.mp hz
          have nd : (canon (acc.map (·.1))).Nodup := (asc_canon _).imp fun {a b} q e => by
            rw [e, ltI_irr] at q
            cases q
          exact List.Nodup.length_le_of_subset nd hsub
        rw [List.length_reverse]
        rw [List.length_map] at this
        omega
      exact this
    · intro key hkey
      have hkm : key ∈ acc.map (·.1) := mem_canon.mp (List.mem_reverse.mp hkey)
      obtain ⟨g1, g2, g3⟩ := lk_mem hkm
      obtain ⟨v1, v2⟩ := A.val _ g1
      rw [g2] at v1
      have hne : key ≠ [] := fun e0 => by
        obtain ⟨t, h1, h2⟩ := List.mem_map.mp ((A.mem key).mp hkm)
        have := (ht t h1).len
        rw [h2, e0] at this
        simp at this
        omega
      have hget : getD (.loc st.length) (.p (tupI key)) (st ++ [Ob.dT (acc.map kv)]) = some (.p (lk acc key).2.1, st ++ [Ob.dT (acc.map kv)]) := getD_ev hst hne (by rw [find_kv, g3]; rfl)
      have hix := fun st => ixG_opn (st := st) (k := 0) v2
      have hnz : ((lk acc key).2.2.num != 0) = decide (sumK l key ≠ 0) := by
        rw [v1]
        by_cases z : sumK l key = 0
        · rw [z]; decide
        · have : (sumK l key).num ≠ 0 := fun e => z (Rat.num_eq_zero.mp e)
          simp [z, this]
      have htr : trm (lk acc key) = .tuple [tupI key, (lk acc key).2.1] := by unfold trm; rw [g2]
      refine turn_if (env1 := [some d, some (.loc st.length), some (.p (tupI key)), b]) (by simp [wipeE]) ?_ fun _ => ?_
      · simp [hget, hix, hnz]
      · simp [hget, htr]
  unfold gBody at h1
  simp [φ__law_gather, N__law_gather, m__law_gather, h1, hcomp]
end Q
set_option Elab.async false
set_option linter.all false
set_option maxRecDepth 100000
set_option maxHeartbeats 4000000
set_option exponentiation.threshold 20000
namespace Q
open PySem PySem.Spec Fw
open L2 (Key)
/-! ## sums, differences, products -/
theorem add_tup {a b : List PyData} (h : a.length + b.length ≤ 1000000) : addP (.tuple a) (.tuple b) = some (.tuple (a ++ b)) := by
  show (if a.length + b.length ≤ 1000000 then some (PyData.tuple (a ++ b)) else none) = _
  exact if_pos h
theorem isLst_ev {st : Sto} {n : Nat} {ds : List D} (h : st[n]? = some (.lst ds)) : isLst (.loc n) st = true := by
  unfold isLst
  simp only [h]
theorem extend_ev {st : Sto} {n : Nat} {ds : List D} {y : PyData} {ys : List PyData} (h : st[n]? = some (.lst ds)) (hy : seqP y = some ys) (h1 : ds.length ≤ 1000000) (h2 : ys.length ≤ 1000000) : extendG (.loc n) [.p y] st = some (.p .none, st.set n (.lst (ds ++ ys.map D.p))) := by
  show (match st[n]?, seqP y with
    | some (.lst ds), some ys => if ds.length ≤ 1000000 ∧ ys.length ≤ 1000000 then some (D.p .none, st.set n (.lst (ds ++ ys.map D.p))) else none
    | _, _ => none) = _
  rw [h, hy]
  exact if_pos ⟨h1, h2⟩
theorem append_ev {st : Sto} {n : Nat} {ds : List D} {x : D} (h : st[n]? = some (.lst ds)) (h1 : ds.length ≤ 1000000) (h2 : okIn n x = true) : appendG (.loc n) [x] st = some (.p .none, st.set n (.lst (ds ++ [x]))) := by
  show (match st[n]? with
    | some (.lst ds) => if ds.length ≤ 1000000 ∧ okIn n x = true then some (D.p .none, st.set n (.lst (ds ++ [x]))) else none
    | _ => none) = _
  rw [h]
  exact if_pos ⟨h1, h2⟩
@[simp] theorem ev_mMth {mo : Env' → M D} {ms : Env' → M (List D)} {g : D → List D → Sto → Option (D × Sto)} {env : Env'} : mMth mo ms g env = bnd (mo env) fun o st => if isLst o st = true then bnd (ms env) (fun xs => lft (g o xs)) st else .bad := rfl
@[simp] theorem ev_seqT {xs : List PyData} : seqP (.tuple xs) = some xs := rfl
/-- products of monomials -/
theorem e_times (a b : List Int) (st : Sto) (hl : a.length ≤ 1000) : φ_times [.p (tupI a), .p (tupI b)] st = .ok (.p (tupI (a.zipWith (· + ·) b))) st := by
  have hc := comp_all (mi := iArgs (aCons (mVar 0) (aCons (mVar 1) aNil)) zip2) (own := [2, 3]) (g := .tp (.cons (.nm 2) (.cons (.nm 3) .nil))) (m := m2 (mVar 2) (mVar 3) (lift2 1 addP)) (env := [some (.p (tupI a)), some (.p (tupI b)), none, none]) (st := st) (st0 := st) (xs := a.zip b) (e := fun q => .tuple [.int q.1, .int q.2]) (h := fun q : Int × Int => .int (q.1 + q.2))
    (by rw [src_zip (xs := a.map .int) (ys := b.map .int) (st1 := st) (by simp [tupI]), pairs_T]) (by rw [List.length_zip]; omega) fun q _ => turn_all (env1 := [some (.p (tupI a)), some (.p (tupI b)), some (.p (.int q.1)), some (.p (.int q.2))]) (by simp [wipeE]) (by simp)
  rw [zip_tup (fun x y => x + y)] at hc
  simp [φ_times, N_times, m_times, hc, -List.map_zipWith]
  rfl
/-- a polynomial's terms one by one, by name -/
theorem comp_terms {i j1 j2 : Nat} {m : Env' → M D} {env : Env'} {st : Sto} {l : List U} {f : U → U} {e1 : U → Env'} (hi : env[i]? = some (some (.p (.tuple (l.map trm))))) (hl : l.length ≤ 1000000) (he : ∀ t, gSet (.tp (.cons (.nm j1) (.cons (.nm j2) .nil))) (.p (trm t)) (wipeE env [j1, j2]) = some (e1 t)) (hm : ∀ t ∈ l, m (e1 t) st = .ok (.p (trm (f t))) st) :
    mCompV false i (.tp (.cons (.nm j1) (.cons (.nm j2) .nil))) [j1, j2] tTr m env st = .ok (.p (.list ((l.map f).map trm))) st := by
  rw [compV_p hi, comp_all (e := trm) (xs := l) (h := fun t => trm (f t)) (st := st) (by rw [iSeq_tup hi, List.map_map]; rfl) hl fun t ht => turn_all (he t) (hm t ht), List.map_map]
  rfl
theorem map_map_trm {l : List U} {f : U → U} : (l.map f).map trm = l.map fun t => trm (f t) := by rw [List.map_map]; rfl
def negU (l : List U) : List U := l.map fun t => (t.1, rat (-t.2.2), -t.2.2)
theorem negU_mth (l : List U) : mth (negU l) = Po.neg (mth l) := by
  unfold mth negU Po.neg
  rw [List.map_map, List.map_map]
  rfl
theorem keys_map {l : List U} {f : U → U} (h : ∀ t, (f t).1 = t.1) : (l.map f).map (·.1) = l.map (·.1) := by
  rw [List.map_map]
  apply List.map_congr_left
  intro t _
  exact h t
theorem PolyL.negU {n c k : Nat} {l : List U} (h : PolyL n c k l) : PolyL n c k (negU l) := by
  refine ⟨fun t ht => ?_, fun t ht => ?_, by unfold Q.negU; rw [keys_map (f := fun t : U => (t.1, rat (-t.2.2), -t.2.2)) fun t => rfl]; exact h.desc⟩
  · obtain ⟨u, hu, rfl⟩ := List.mem_map.mp ht
    have o := h.ok u hu
    exact ⟨o.len, o.nn, IsR.rat _, o.sz.neg⟩
  · obtain ⟨u, hu, rfl⟩ := List.mem_map.mp ht
    have := h.nz u hu
    show -u.2.2 ≠ 0
    intro e
    apply this
    have := Rat.neg_neg u.2.2
    rw [e] at this
    rw [← this]
    rfl
theorem e_negative {l : List U} {n c k : Nat} (h : PolyL n c k l) (hl : l.length ≤ 1000000) (st : Sto) : φ_negative_polys [.p (.tuple (l.map trm))] st = .ok (.p (.tuple ((negU l).map trm))) st := by
  have hc := comp_terms (i := 0) (j1 := 1) (j2 := 2) (m := mL (aCons (mVar 1) (aCons (mCall (aCons (mVar 2) (aNil)) (sized 1 φ_negative_ratios)) (aNil))) gTupD) (env := [some (.p (.tuple (l.map trm))), none, none]) (st := st) (l := l) (f := fun t => (t.1, rat (-t.2.2), -t.2.2)) (e1 := fun t => [some (.p (.tuple (l.map trm))), some (.p (tupI t.1)), some (.p t.2.1)]) rfl hl (fun t => by simp [wipeE, trm]) fun t ht => by
      have := e_negR (st := st) (h.ok t ht).isr
      simp [this, trm]
  simp [φ_negative_polys, N_negative_polys, m_negative_polys, hc, negU]
theorem e_add {a b : PyData} {p q : Po.P} {n c k T c' T' : Nat} (ha : PolyD n c k T a p) (hb : PolyD n c' k T' b q) (hn : 1 ≤ n) (hT : T + T' ≤ 1000000) (hc : (c + c') * (T + T') < 2 ^ 4000) (hk : 6 ^ k < 2 ^ 4000) (st : Sto) :
    ∃ r, φ_add_polys [.p a, .p b] st = .ok (.p r) st ∧ PolyD n ((c + c') * (T + T')) k (T + T') r (p + q) := by
  obtain ⟨l, hl, rfl, hlT, rfl⟩ := ha
  obtain ⟨m, hm, rfl, hmT, rfl⟩ := hb
  have ok : ∀ t ∈ l ++ m, Okt n (c + c') k t := fun t ht => by
    rcases List.mem_append.mp ht with h | h
    · exact ⟨(hl.ok t h).len, (hl.ok t h).nn, (hl.ok t h).isr, (hl.ok t h).sz.mono (by omega)⟩
    · exact ⟨(hm.ok t h).len, (hm.ok t h).nn, (hm.ok t h).isr, (hm.ok t h).sz.mono (by omega)⟩
  have hle : (c + c') * (l ++ m).length ≤ (c + c') * (T + T') := Nat.mul_le_mul_left _ (by rw [List.length_append]; omega)
  obtain ⟨r, h1, R, g1, g2, g3, g4⟩ := e_gathered (d := .p (.tuple ((l ++ m).map trm))) (st := st) (.inl rfl) hn ok (by omega) hk (by rw [List.length_append]; omega)
  refine ⟨r, ?_, R, ⟨fun t ht => ⟨(g1.ok t ht).len, (g1.ok t ht).nn, (g1.ok t ht).isr, (g1.ok t ht).sz.mono hle⟩, g1.nz, g1.desc⟩, g2, by rw [List.length_append] at g3; omega, by rw [g4, mth_append]; rfl⟩
  have ha := add_tup (a := l.map trm) (b := m.map trm) (by rw [List.length_map, List.length_map]; omega)
  rw [← List.map_append] at ha
  simp [φ_add_polys, N_add_polys, m_add_polys, ha, h1, -List.map_append]
theorem e_subtract {a b : PyData} {p q : Po.P} {n c k T c' T' : Nat} (ha : PolyD n c k T a p) (hb : PolyD n c' k T' b q) (hn : 1 ≤ n) (hT : T + T' ≤ 1000000) (hc : (c + c') * (T + T') < 2 ^ 4000) (hk : 6 ^ k < 2 ^ 4000) (st : Sto) :
    ∃ r, φ_subtract [.p a, .p b] st = .ok (.p r) st ∧ PolyD n ((c + c') * (T + T')) k (T + T') r (p - q) := by
  obtain ⟨l, hl, rfl, hlT, rfl⟩ := ha
  obtain ⟨m, hm, rfl, hmT, rfl⟩ := hb
  have hm' := hm.negU
  have hlen : (negU m).length = m.length := by unfold negU; rw [List.length_map]
  have ok : ∀ t ∈ l ++ negU m, Okt n (c + c') k t := fun t ht => by
    rcases List.mem_append.mp ht with h | h
    · exact ⟨(hl.ok t h).len, (hl.ok t h).nn, (hl.ok t h).isr, (hl.ok t h).sz.mono (by omega)⟩
    · exact ⟨(hm'.ok t h).len, (hm'.ok t h).nn, (hm'.ok t h).isr, (hm'.ok t h).sz.mono (by omega)⟩
  have hle : (c + c') * (l ++ negU m).length ≤ (c + c') * (T + T') := Nat.mul_le_mul_left _ (by rw [List.length_append]; omega)
  obtain ⟨r, h1, R, g1, g2, g3, g4⟩ := e_gathered (d := .p (.tuple ((l ++ negU m).map trm))) (st := st) (.inl rfl) hn ok (by omega) hk (by rw [List.length_append]; omega)
  refine ⟨r, ?_, R, ⟨fun t ht => ⟨(g1.ok t ht).len, (g1.ok t ht).nn, (g1.ok t ht).isr, (g1.ok t ht).sz.mono hle⟩, g1.nz, g1.desc⟩, g2, by rw [List.length_append] at g3; omega, by rw [g4, mth_append, negU_mth]; rfl⟩
  have ha := add_tup (a := l.map trm) (b := (negU m).map trm) (by rw [List.length_map, List.length_map]; omega)
  rw [← List.map_append] at ha
  have hneg := e_negative hm (by omega) st
  simp [φ_subtract, N_subtract, m_subtract, hneg, ha, h1, -List.map_append]
/-- a polynomial times a term -/
def shU (s : U) (l : List U) : List U := l.map fun t => (s.1.zipWith (· + ·) t.1, rat (s.2.2 * t.2.2), s.2.2 * t.2.2)
theorem shU_mth {n : Nat} {s : U} {l : List U} (hs : s.1.length = n) (hl : ∀ t ∈ l, t.1.length = n) : mth (shU s l) = Po.tmul (fnE s.1, s.2.2) (mth l) := by
  unfold mth shU Po.tmul
  rw [List.map_map, List.map_map]
  apply List.map_congr_left
  intro t ht
  simp only [Function.comp, Prod.mk.injEq]
  exact ⟨fn_zip (by rw [hs, hl t ht]), trivial⟩
theorem zip_nn : ∀ {a b : List Int}, (∀ i ∈ a, 0 ≤ i) → (∀ i ∈ b, 0 ≤ i) → ∀ i ∈ a.zipWith (· + ·) b, 0 ≤ i
  | [], _, _, _, i, h => by simp at h
  | _ :: _, [], _, _, i, h => by simp at h
  | x :: a, y :: b, ha, hb, i, h => by
    rw [List.zipWith_cons_cons] at h
    rcases List.mem_cons.mp h with e | h
    · have := ha x List.mem_cons_self
      have := hb y List.mem_cons_self
      omega
    · exact zip_nn (fun i hi => ha i (List.mem_cons_of_mem _ hi)) (fun i hi => hb i (List.mem_cons_of_mem _ hi)) i h
theorem shU_ok {n c k d j : Nat} {s : U} {l : List U} (hs : Okt n d j s) (hl : ∀ t ∈ l, Okt n c k t) : ∀ t ∈ shU s l, Okt n (d * c) (j + k) t := fun t ht => by
  obtain ⟨u, hu, rfl⟩ := List.mem_map.mp ht
  have o := hl u hu
  exact ⟨by rw [List.length_zipWith, hs.len, o.len, Nat.min_self], zip_nn hs.nn o.nn, IsR.rat _, hs.sz.mul o.sz⟩
theorem e_shifted {s : U} {l : List U} {n c k d j : Nat} (hs : Okt n d j s) (h : ∀ t ∈ l, Okt n c k t) (hn : n ≤ 1000) (hl : l.length ≤ 1000000) (hd : d < 2 ^ 4000) (hc : c < 2 ^ 4000) (hj : 6 ^ j < 2 ^ 4000) (hk : 6 ^ k < 2 ^ 4000) (st : Sto) : φ_shifted [.p (trm s), .p (.tuple (l.map trm))] st = .ok (.p (.tuple ((shU s l).map trm))) st := by
  have hc := comp_terms (i := 1) (j1 := 2) (j2 := 3) (m := mL (aCons (mCall (aCons (m2 (mVar 0) (mC (.int 0)) ixG) (aCons (mVar 2) (aNil))) (sized 2 φ_times)) (aCons (mCall (aCons (m2 (mVar 0) (mC (.int 1)) ixG) (aCons (mVar 3) (aNil))) (sized 2 φ_multiply_ratios)) (aNil))) gTupD) (env := [some (.p (trm s)), some (.p (.tuple (l.map trm))), none, none]) (st := st) (l := l) (f := fun t => (s.1.zipWith (· + ·) t.1, rat (s.2.2 * t.2.2), s.2.2 * t.2.2)) (e1 := fun t => [some (.p (trm s)), some (.p (.tuple (l.map trm))), some (.p (tupI t.1)), some (.p t.2.1)]) rfl hl (fun t => by simp [wipeE, trm]) fun t ht => by
      have o := h t ht
      have h1 := e_times s.1 t.1 st (by rw [hs.len]; exact hn)
      have h2 := e_mulR (st := st) hs.isr o.isr (hs.sz.nb hd hj) (o.sz.nb hc hk) (by decide)
      simp [h1, h2, trm]
  simp [φ_shifted, N_shifted, m_shifted, hc, shU]
/-- products -/
def mulU (l m : List U) : List U := l.flatMap fun s => shU s m
theorem mulU_mth {n : Nat} {l m : List U} (hl : ∀ t ∈ l, t.1.length = n) (hm : ∀ t ∈ m, t.1.length = n) : mth (mulU l m) = Po.mul (mth l) (mth m) := by
  induction l with
  | nil => rfl
  | cons s l ih =>
    show mth (shU s m ++ mulU l m) = Po.tmul (fnE s.1, s.2.2) (mth m) ++ Po.mul (mth l) (mth m)
    rw [mth_append, ih fun t ht => hl t (List.mem_cons_of_mem _ ht), shU_mth (hl s List.mem_cons_self) hm]
theorem mulU_len (l m : List U) : (mulU l m).length = l.length * m.length := by
  induction l with
  | nil => simp [mulU]
  | cons s l ih =>
    show (shU s m ++ mulU l m).length = _
    rw [List.length_append, ih, List.length_cons, Nat.add_mul, Nat.one_mul, Nat.add_comm]
    unfold shU
    rw [List.length_map]
theorem e_multiply {a b : PyData} {p q : Po.P} {n c k T c' k' T' : Nat} (ha : PolyD n c k T a p) (hb : PolyD n c' k' T' b q) (hn : 1 ≤ n) (hn2 : n ≤ 1000) (hT : T * T' ≤ 900000) (hT' : T' ≤ 900000) (hc : c * c' * (T * T') < 2 ^ 4000) (hc1 : c < 2 ^ 4000) (hc2 : c' < 2 ^ 4000) (hk : 6 ^ (k + k') < 2 ^ 4000) (st : Sto) :
    ∃ r, φ_multiply_polys [.p a, .p b] st = .ok (.p r) st ∧ PolyD n (c * c' * (T * T')) (k + k') (T * T') r (p * q) := by
  obtain ⟨l, hl, rfl, hlT, rfl⟩ := ha
  obtain ⟨m, hm, rfl, hmT, rfl⟩ := hb
  have hk1 : 6 ^ k < 2 ^ 4000 := Nat.lt_of_le_of_lt (Nat.pow_le_pow_right (by decide) (by omega)) hk
  have hk2 : 6 ^ k' < 2 ^ 4000 := Nat.lt_of_le_of_lt (Nat.pow_le_pow_right (by decide) (by omega)) hk
  have hll : l.length * m.length ≤ T * T' := Nat.mul_le_mul hlT hmT
  have loop : ∃ e, sFor (iSeq (mVar 0)) (.nm 3) (sSeq (sExp (mMth (mVar 2) (aCons (mCall (aCons (mVar 3) (aCons (mVar 1) (aNil))) (sized 2 φ_shifted)) (aNil)) extendG)) (sNil)) [some (.p (.tuple (l.map trm))), some (.p (.tuple (m.map trm))), some (.loc st.length), none] (st ++ [.lst []]) = .nx [some (.p (.tuple (l.map trm))), some (.p (.tuple (m.map trm))), some (.loc st.length), e] (st ++ [.lst (((mulU l m).map trm).map D.p)]) := by
    obtain ⟨env', st', h3, e, rfl, rfl⟩ := for_inv (mi := iSeq (mVar 0)) (src := .fix ((l.map trm).map .p)) (g := .nm 3) (b := sSeq (sExp (mMth (mVar 2) (aCons (mCall (aCons (mVar 3) (aCons (mVar 1) (aNil))) (sized 2 φ_shifted)) (aNil)) extendG)) (sNil)) (ds := (l.map trm).map .p) (env := [some (.p (.tuple (l.map trm))), some (.p (.tuple (m.map trm))), some (.loc st.length), none]) (st := st ++ [.lst []]) (st1 := st ++ [.lst []])
      (fun i env s => ∃ e, env = [some (.p (.tuple (l.map trm))), some (.p (.tuple (m.map trm))), some (.loc st.length), e] ∧ s = st ++ [.lst (((mulU (l.take i) m).map trm).map D.p)]) (iSeq_tup rfl) ⟨none, rfl, rfl⟩ (fun _ _ _ _ => rfl) fun i x env s hx ⟨e, e1, e2⟩ => by
        rw [List.map_map, List.getElem?_map] at hx
        cases hi : l[i]? with
        | none => rw [hi] at hx; cases hx
        | some t =>
          rw [hi] at hx
          cases hx
          have hil : i < l.length := (List.getElem?_eq_some_iff.mp hi).1
          have htm : t ∈ l := List.mem_of_getElem? hi
          have htk : mulU (l.take (i + 1)) m = mulU (l.take i) m ++ shU t m := by
            rw [List.take_add_one, hi]
            unfold mulU
            rw [List.flatMap_append]
            simp
          have hsh := e_shifted (hl.ok t htm) (fun u hu => hm.ok u hu) hn2 (by omega) hc1 hc2 hk1 hk2 (st ++ [.lst (((mulU (l.take i) m).map trm).map D.p)])
          subst e1 e2
          have hlen : (mulU (l.take i) m).length ≤ 1000000 := by
            rw [mulU_len, List.length_take]
            have : min i l.length * m.length ≤ l.length * m.length := Nat.mul_le_mul_right _ (by omega)
            omega
          have hst : (st ++ [Ob.lst (((mulU (l.take i) m).map trm).map D.p)])[st.length]? = some (.lst (((mulU (l.take i) m).map trm).map D.p)) := get_last
          have hex := extend_ev (y := .tuple ((shU t m).map trm)) hst rfl (by simpa using hlen) (by unfold shU; simp; omega)
          refine ⟨[some (.p (.tuple (l.map trm))), some (.p (.tuple (m.map trm))), some (.loc st.length), some (.p (trm t))], by simp, [some (.p (.tuple (l.map trm))), some (.p (.tuple (m.map trm))), some (.loc st.length), some (.p (trm t))], st ++ [.lst (((mulU (l.take (i + 1)) m).map trm).map D.p)], .inl ?_, _, rfl, rfl⟩
          rw [set_last] at hex
          rw [htk]
          simp only [List.map_append] at hex ⊢
          have hisl := isLst_ev hst
          simp [hisl, hsh, hex, -List.map_map]
    refine ⟨e, ?_⟩
    rw [h3]
    simp
  obtain ⟨e, loop⟩ := loop
  have ok : ∀ t ∈ mulU l m, Okt n (c * c') (k + k') t := fun t ht => by
    obtain ⟨s, hs, h⟩ := List.mem_flatMap.mp ht
    exact shU_ok (hl.ok s hs) (fun u hu => hm.ok u hu) t h
  have hlen : (mulU l m).length ≤ T * T' := by rw [mulU_len]; exact hll
  have hle : c * c' * (mulU l m).length ≤ c * c' * (T * T') := Nat.mul_le_mul_left _ hlen
  obtain ⟨r, h1, R, g1, g2, g3, g4⟩ := e_gathered (d := .loc st.length) (st := st ++ [.lst (((mulU l m).map trm).map D.p)]) (.inr (.inr ⟨_, rfl, get_last⟩)) hn ok (by omega) hk (by omega)
  refine ⟨r, ?_, R, ⟨fun t ht => ⟨(g1.ok t ht).len, (g1.ok t ht).nn, (g1.ok t ht).isr, (g1.ok t ht).sz.mono hle⟩, g1.nz, g1.desc⟩, g2, by omega, by rw [g4, mulU_mth (fun t ht => (hl.ok t ht).len) fun t ht => (hm.ok t ht).len]; rfl⟩
  simp [φ_multiply_polys, N_multiply_polys, m_multiply_polys, loop, h1, -List.map_map]
end Q
set_option Elab.async false
set_option linter.all false
set_option maxRecDepth 100000
set_option maxHeartbeats 4000000
set_option exponentiation.threshold 20000
namespace Q
open PySem PySem.Spec Fw
open L2 (Key)
/-! ## more rules -/
@[simp] theorem ev_sSetI {mo mi me : Env' → M D} {env : Env'} : sSetI mo mi me env = sbnd (bnd (me env) fun v => bnd (mo env) fun o => bnd (mi env) fun i => fun st => match setG o i v st with
  | some st' => .ok () st'
  | none => .bad) env fun _ st => .nx env st := rfl
/-! ## the tape -/
def tp (cells : List Int) (seed : Int) (rest : Sto) : Sto := .lst (cells.map fun i => .p (.int i)) :: .lst [.loc 0, .p (.int seed)] :: rest
def Tp (rest st : Sto) : Prop := ∃ cells seed, st = tp cells seed rest ∧ cells.length ≤ 63 ∧ 0 ≤ seed ∧ seed < 2147483648
theorem mulOk_s {i j : Int} (hi : i.natAbs < 2 ^ 40) (hj : j.natAbs < 2 ^ 40) : mulOk i j = true := mulOk_of hi hj (by decide)
theorem fdiv_s {i j : Int} (hj : 0 < j) (h2 : j < 1000) : fdivP (.int i) (.int j) = some (.int (i.fdiv j)) := by
  have h3 : j.natAbs.log2 ≤ 40 := log_le (by omega)
  exact ev_fdiv (by omega) (by omega)
theorem fmod_bd (i : Int) {j : Int} (hj : 0 < j) : 0 ≤ i.fmod j ∧ i.fmod j < j := ⟨Int.fmod_nonneg_of_pos i hj, Int.fmod_lt_of_pos i hj⟩
section
variable {x y : Int} {cells : List Int} {seed : Int} {rest : Sto}
@[simp] theorem tp_len : (tp cells seed rest).length = rest.length + 2 := rfl
@[simp] theorem tp_take : (tp cells seed rest).take (rest.length + 2) = tp cells seed rest := by
  unfold tp
  rw [List.take_succ_cons, List.take_succ_cons, List.take_length]
@[simp] theorem tp_len0 : lenG (.loc 0) (tp cells seed rest) = some (.p (.int cells.length), tp cells seed rest) := by
  have e : lenG (.loc 0) (tp cells seed rest) = some (.p (.int (cells.map fun i => D.p (.int i)).length), tp cells seed rest) := rfl
  rw [e, List.length_map]
theorem ix0 {n : Nat} : L2.ixN (n + 1) 0 = some 0 := by
  unfold L2.ixN
  rw [if_pos (by decide), if_pos (by omega)]
  rfl
@[simp] theorem tp_set0 : setG (.loc 0) (.p (.int 0)) (.p (.int y)) (tp (x :: cells) seed rest) = some (tp (y :: cells) seed rest) := by
  have e : setG (.loc 0) (.p (.int 0)) (.p (.int y)) (tp (x :: cells) seed rest) = (match L2.ixN ((cells.map fun i => D.p (.int i)).length + 1) 0 with
    | some j => some ((tp (x :: cells) seed rest).set 0 (.lst ((D.p (.int x) :: cells.map fun i => D.p (.int i)).set j (.p (.int y)))))
    | none => none) := rfl
  rw [e, ix0]
  rfl
theorem tp_pop0 (h : cells.length ≤ 63) : popAtG (.loc 0) [.p (.int 0)] (tp (x :: cells) seed rest) = some (.p (.int x), tp cells seed rest) := by
  have e : popAtG (.loc 0) [.p (.int 0)] (tp (x :: cells) seed rest) = (if (0 : Int) ≤ 0 ∧ (D.p (.int x) :: cells.map fun i => D.p (.int i)).length ≤ 1000000 then some (D.p (.int x), tp cells seed rest) else none) := rfl
  rw [e, if_pos ⟨by decide, by simp; omega⟩]
@[simp] theorem tp_at0 : ixG (.loc 0) (.p (.int 0)) (tp (x :: cells) seed rest) = some (.p (.int x), tp (x :: cells) seed rest) := by
  have e : ixG (.loc 0) (.p (.int 0)) (tp (x :: cells) seed rest) = (((L2.ixN ((cells.map fun i => D.p (.int i)).length + 1) 0).bind fun j => (D.p (.int x) :: cells.map fun i => D.p (.int i))[j]?).map fun z => (z, tp (x :: cells) seed rest)) := rfl
  rw [e, ix0]
  rfl
@[simp] theorem tp_at10 : ixG (.loc 1) (.p (.int 0)) (tp cells seed rest) = some (.loc 0, tp cells seed rest) := rfl
@[simp] theorem tp_at11 : ixG (.loc 1) (.p (.int 1)) (tp cells seed rest) = some (.p (.int seed), tp cells seed rest) := rfl
@[simp] theorem tp_set1 : setG (.loc 1) (.p (.int 1)) (.p (.int y)) (tp cells seed rest) = some (tp cells y rest) := rfl
@[simp] theorem tp_lst0 : isLst (.loc 0) (tp cells seed rest) = true := rfl
end
def wDraw (f : Nat) : MS := sWhile (tAn (tB (m2 (mL (aCons (mVar 2) (aNil)) (gL1 lenG)) (mC (.int 0)) (lift2 3 gtP))) (tB (m2 (m2 (mVar 2) (mC (.int 0)) ixG) (mC (.int 0)) (lift2 3 eqP)))) (sSeq (sExp (mMth (mVar 2) (aCons (mC (.int 0)) (aNil)) popAtG))
    (sNil)) f
theorem w_draw {seed many : Int} {rest : Sto} : ∀ (f : Nat) (cells : List Int), cells.length ≤ 63 → cells.length < f → ∃ cells', cells'.length ≤ cells.length ∧
    wDraw f [some (.loc 1), some (.p (.int many)), some (.loc 0), none] (tp cells seed rest) = .nx [some (.loc 1), some (.p (.int many)), some (.loc 0), none] (tp cells' seed rest)
  | 0, cells, _, h => by omega
  | f + 1, [], _, _ => ⟨[], Nat.le_refl _, by
    unfold wDraw
    rw [while_succ]
    simp⟩
  | f + 1, x :: cells, hc, h => by
    by_cases q : x = 0
    · obtain ⟨cells', h1, h2⟩ := w_draw (seed := seed) (many := many) (rest := rest) f cells (by simp at hc; omega) (by simp at h; omega)
      refine ⟨cells', by simp; omega, ?_⟩
      unfold wDraw at h2 ⊢
      rw [while_succ]
      have hp := tp_pop0 (x := x) (seed := seed) (rest := rest) (cells := cells) (by simp at hc; omega)
      have hpos : (0 : Int) < (cells.length : Int) + 1 := by omega
      subst q
      simp [hp, hpos]
      exact h2
    · refine ⟨x :: cells, Nat.le_refl _, ?_⟩
      unfold wDraw
      rw [while_succ]
      have hpos : (0 : Int) < (cells.length : Int) + 1 := by omega
      simp [hpos, q]
theorem e_draw {rest st : Sto} (h : Tp rest st) {many : Int} (h1 : 0 < many) (h2 : many < 1000) : ∃ (r : Nat) (st' : Sto), φ__law_draw [.loc 1, .p (.int many)] st = .ok (.p (.int r)) st' ∧ (r : Int) < many ∧ Tp rest st' := by
  obtain ⟨cells, seed, rfl, hl, s1, s2⟩ := h
  obtain ⟨cells', hl', hw⟩ := w_draw (seed := seed) (many := many) (rest := rest) fuel cells hl (fuel_9000 (Nat.lt_of_le_of_lt hl (by decide)))
  unfold wDraw at hw
  have md := fun i => ev_mod (i := i) (j := many) (by omega)
  have fd := fun i => fdiv_s (i := i) h1 h2
  cases cells' with
  | cons x r =>
    obtain ⟨b1, b2⟩ := fmod_bd x h1
    obtain ⟨n, hn⟩ := Int.eq_ofNat_of_zero_le b1
    have hpos : (0 : Int) < (r.length : Int) + 1 := by omega
    refine ⟨n, tp (x.fdiv many :: r) seed rest, ?_, by omega, _, _, rfl, by simp at hl' ⊢; omega, s1, s2⟩
    simp [φ__law_draw, N__law_draw, m__law_draw, hw, md, fd, hpos]
    exact hn
  | nil =>
    have m1 := ev_mulI (mulOk_s (i := seed) (j := 48271) (by omega) (by decide))
    have f1 := fun i => fdiv_s (i := i) (j := 64) (by decide) (by decide)
    have d1 := fun i => ev_mod (i := i) (j := 2147483647) (by decide)
    obtain ⟨b1, b2⟩ := fmod_bd (seed * 48271 + 12345) (j := 2147483647) (by decide)
    obtain ⟨c1, c2⟩ := fmod_bd (((seed * 48271 + 12345).fmod 2147483647).fdiv 64) h1
    obtain ⟨n, hn⟩ := Int.eq_ofNat_of_zero_le c1
    refine ⟨n, tp [] ((seed * 48271 + 12345).fmod 2147483647) rest, ?_, by omega, _, _, rfl, by simp, b1, by omega⟩
    simp [φ__law_draw, N__law_draw, m__law_draw, hw, md, m1, f1, d1]
    exact hn
end Q
set_option Elab.async false
set_option linter.all false
set_option maxRecDepth 100000
set_option maxHeartbeats 4000000
set_option exponentiation.threshold 20000
namespace Q
open PySem PySem.Spec Fw
open L2 (Key)
/-! ## draws, one after another -/
theorem turn_ok {g : G} {env env1 : Env'} {m : Env' → M D} {x d : D} {st st1 : Sto} (hg : gSet g x env = some env1) (h : m env1 st = .ok d st1) : turnG g env (bodyC tTr m) x st = .ok [d] st1 := by
  unfold turnG
  rw [hg]
  show noexc (bodyC tTr m env1) st = _
  unfold noexc bodyC
  have e1 : bnd (tTr env1) (fun b => if b = true then bnd (m env1) fun y => Fw.ret [y] else Fw.ret []) st = .ok [d] st1 := by
    rw [bnd_ok (show tTr env1 st = .ok true st from rfl), if_pos rfl, bnd_ok h]
    rfl
  rw [e1]
theorem compL_st {I : Sto → Prop} {P : D → Prop} {turn : D → M (List D)} : ∀ {xs : List D}, (∀ st, I st → ∀ x ∈ xs, ∃ y st', turn x st = .ok [y] st' ∧ P y ∧ I st') → ∀ st, I st → ∃ ys st', compL turn xs st = .ok ys st' ∧ ys.length = xs.length ∧ (∀ y ∈ ys, P y) ∧ I st'
  | [], _, st, h => ⟨[], st, rfl, rfl, fun y hy => absurd hy List.not_mem_nil, h⟩
  | x :: xs, hx, st, h => by
    obtain ⟨y, st1, h1, h2, h3⟩ := hx st h x List.mem_cons_self
    obtain ⟨ys, st2, g1, g2, g3, g4⟩ := compL_st (P := P) (turn := turn) (xs := xs) (fun st hs z hz => hx st hs z (List.mem_cons_of_mem _ hz)) st1 h3
    refine ⟨y :: ys, st2, ?_, by simp [g2], fun z hz => ?_, g4⟩
    · unfold compL
      rw [bnd_ok h1, bnd_ok g1]
      rfl
    · rcases List.mem_cons.mp hz with e | hz
      · rw [e]; exact h2
      · exact g3 z hz
/-- a comprehension that keeps I of the store, each turn giving e of an a with P a -/
theorem comp_st {α : Type} {I : Sto → Prop} {P : α → Prop} {e : α → PyData} {mi : Env' → M Src} {g : G} {own : List Nat} {m : Env' → M D} {env : Env'} {st0 st : Sto} {xs : List D} (h : I st) (hs : mi env st0 = .ok (.fix xs) st) (hl : xs.length ≤ 1000000)
    (ht : ∀ st, I st → ∀ x ∈ xs, ∃ env1 a st', gSet g x (wipeE env own) = some env1 ∧ m env1 st = .ok (.p (e a)) st' ∧ P a ∧ I st') :
    ∃ (as : List α) (st' : Sto), mComp false mi g own tTr m env st0 = .ok (.p (.list (as.map e))) st' ∧ as.length = xs.length ∧ (∀ a ∈ as, P a) ∧ I st' := by
  obtain ⟨ys, st', h1, h2, h3, h4⟩ := compL_st (I := I) (P := fun d => ∃ a, d = .p (e a) ∧ P a) (turn := turnG g (wipeE env own) (bodyC tTr m)) (xs := xs) (fun st hst x hx => by
    obtain ⟨env1, a, st', q0, q1, q2, q3⟩ := ht st hst x hx
    exact ⟨_, st', turn_ok q0 q1, ⟨a, rfl, q2⟩, q3⟩) st h
  have key : ∀ ys : List D, (∀ y ∈ ys, ∃ a, y = D.p (e a) ∧ P a) → ∃ as : List α, ys = as.map (fun a => D.p (e a)) ∧ ∀ a ∈ as, P a := by
    intro ys
    induction ys with
    | nil => intro _; exact ⟨[], rfl, fun a ha => absurd ha List.not_mem_nil⟩
    | cons y ys ih =>
      intro hy
      obtain ⟨a, e1, q1⟩ := hy y List.mem_cons_self
      obtain ⟨as, e2, q2⟩ := ih fun z hz => hy z (List.mem_cons_of_mem _ hz)
      refine ⟨a :: as, by rw [e1, e2]; rfl, fun b hb => ?_⟩
      rcases List.mem_cons.mp hb with z | hb
      · rw [z]; exact q1
      · exact q2 b hb
  obtain ⟨as, rfl, q⟩ := key ys h3
  refine ⟨as, st', ?_, by simpa using h2, q, h4⟩
  unfold mComp
  rw [bnd_ok hs]
  have hr : compR 1000000 env g own (bodyC tTr m) (.fix xs) st = .ok (as.map fun a => .p (e a)) st' := by
    unfold compR
    show (if xs.length ≤ 1000000 then compS (.fix xs) (turnG g (wipeE env own) (bodyC tTr m)) xs.length 0 st else .bad) = _
    rw [if_pos (by omega), compS_fix _ _ (by omega)]
    exact h1
  rw [bnd_ok hr]
  show (match pures (as.map fun a => D.p (e a)) with
    | some xs => Fw.R.ok (D.p (.list xs)) st'
    | none => .bad) = _
  rw [pures_mapp]
/-! ## the tape, made -/
theorem absN (i : Int) : (if i < 0 then -i else i) = (i.natAbs : Int) := by omega
theorem e_tape (ns : List Int) (hl : ns.length ≤ 63) : ∃ st, φ__law_tape [.p (.list (ns.map .int))] [] = .ok (.loc 1) st ∧ Tp [] st := by
  obtain ⟨env', st', h3, s, o, h4, h5, h6, h7⟩ := for_inv (mi := iSeq (mVar 0)) (src := .fix ((ns.map PyData.int).map .p)) (g := .nm 2) (b := sSeq (sAsg (.nm 1) (m2 (mL (aCons (m2 (m2 (mVar 1) (mC (.int 31)) (lift2 1 mulP)) (mVar 2) (lift2 1 addP)) (aNil)) (gL1 (lift1 1 intP))) (mC (.int 1000003)) (lift2 1 modP)))
    (sNil)) (ds := (ns.map PyData.int).map .p) (env := [some (.p (.list (ns.map .int))), some (.p (.int 7)), none]) (st := []) (st1 := [])
    (fun i env st => ∃ (s : Int) (o : Option D), env = [some (.p (.list (ns.map .int))), some (.p (.int s)), o] ∧ st = [] ∧ 0 ≤ s ∧ s < 1000003) (iSeq_lst rfl) ⟨7, none, rfl, rfl, by decide, by decide⟩ (fun _ _ _ _ => rfl) fun i x env st hx ⟨s, o, e1, e2, s1, s2⟩ => by
      rw [List.map_map, List.getElem?_map] at hx
      cases hi : ns[i]? with
      | none => rw [hi] at hx; cases hx
      | some v =>
        rw [hi] at hx
        cases hx
        subst e1 e2
        have m1 := ev_mulI (mulOk_s (i := s) (j := 31) (by omega) (by decide))
        have d1 := fun i => ev_mod (i := i) (j := 1000003) (by decide)
        obtain ⟨b1, b2⟩ := fmod_bd (s * 31 + v) (j := 1000003) (by decide)
        refine ⟨[some (.p (.list (ns.map .int))), some (.p (.int s)), some (.p (.int v))], by simp, _, _, .inl (by simp [m1, d1]; rfl), _, _, rfl, rfl, b1, b2⟩
  subst h4 h5
  have hc : mCompV true 0 (.nm 2) [2] (tTr) (mL (aCons (mL (aCons (mVar 2) (aNil)) (gL1 (lift1 1 intP))) (aNil)) (gL1 (lift1 1 absP))) [some (.p (.list (ns.map .int))), some (.p (.int s)), o] ([] : Sto) = .ok (.loc 0) [.lst ((ns.map fun i => (i.natAbs : Int)).map fun i => .p (.int i))] := by
    rw [compV_p rfl]
    unfold mComp
    rw [bnd_ok (iSeq_lst rfl)]
    have hr : compR 1000000 [some (.p (.list (ns.map .int))), some (.p (.int s)), o] (.nm 2) [2] (bodyC tTr (mL (aCons (mL (aCons (mVar 2) (aNil)) (gL1 (lift1 1 intP))) (aNil)) (gL1 (lift1 1 absP)))) (.fix ((ns.map PyData.int).map .p)) ([] : Sto) = .ok (ns.map fun i => .p (.int (i.natAbs : Int))) [] := by
      unfold compR
      show (if ((ns.map PyData.int).map D.p).length ≤ 1000000 then compS (.fix ((ns.map PyData.int).map .p)) _ ((ns.map PyData.int).map D.p).length 0 [] else .bad) = _
      rw [if_pos (by simp; omega), compS_fix _ _ (by omega)]
      show compL _ ((ns.map PyData.int).map .p) _ = _
      generalize hw : wipeE [some (.p (.list (ns.map .int))), some (.p (.int s)), o] [2] = env at *
      have henv : ∃ a b, env = [a, b, none] := ⟨_, _, hw.symm⟩
      obtain ⟨a, b, rfl⟩ := henv
      clear hw h3 hl
      induction ns with
      | nil => rfl
      | cons v ns ih =>
        rw [List.map_cons, List.map_cons]
        unfold compL
        rw [bnd_ok (turn_ok (d := .p (.int (v.natAbs : Int))) (st1 := []) (env1 := [a, b, some (.p (.int v))]) (by simp) (by simp [absN])), bnd_ok ih]
        rfl
    rw [bnd_ok hr]
    unfold endC
    rw [if_pos rfl, if_pos (List.all_eq_true.mpr fun x hx => by obtain ⟨i, _, rfl⟩ := List.mem_map.mp hx; rfl), List.map_map]
    rfl
  refine ⟨tp (ns.map fun i => (i.natAbs : Int)) (s + 1) [], ?_, _, _, rfl, by simpa using hl, by omega, by omega⟩
  have hg : ∀ l : List D, gMutD [.loc 0, .p (.int (s + 1))] [Ob.lst l] = some (.loc 1, [.lst l, .lst [.loc 0, .p (.int (s + 1))]]) := fun l => rfl
  simp [φ__law_tape, N__law_tape, m__law_tape, h3, hc, hg, gc, tp]
end Q
set_option Elab.async false
set_option linter.all false
set_option maxRecDepth 100000
set_option maxHeartbeats 4000000
set_option exponentiation.threshold 20000
namespace Q
open PySem PySem.Spec Fw
open L2 (Key)
/-! ## lists that grow, and slices -/
theorem view_lst {k n : Nat} {st : Sto} {xs : List PyData} (h : st[n]? = some (.lst (xs.map .p))) : view (k + 1) (.loc n) st = some (.list xs) := by
  have hm : ∀ xs : List PyData, (xs.map D.p).mapM (fun d => view k d st) = some xs := fun xs => by
    induction xs with
    | nil => rfl
    | cons x xs ih =>
      rw [List.map_cons, List.mapM_cons, ih]
      have : view k (.p x) st = some x := by cases k <;> rfl
      rw [this]
      rfl
  show (match st[n]? with
    | some (.lst ds) => (ds.mapM fun d => view k d st).map PyData.list
    | _ => none) = _
  rw [h]
  show ((xs.map D.p).mapM fun d => view k d st).map PyData.list = _
  rw [hm]
  rfl
theorem lift1_lst {k n : Nat} {st : Sto} {xs : List PyData} {f : PyData → Option PyData} (h : st[n]? = some (.lst (xs.map .p))) : lift1 (k + 1) f (.loc n) st = (f (.list xs)).map fun r => (.p r, st) := by
  unfold lift1
  rw [view_lst h]
  rfl
theorem cut_lo {α : Type} {xs : List α} {k : Nat} (h : k ≤ xs.length) : cutL xs (some (k : Int)) none = xs.drop k := by
  unfold cutL
  rw [HT.sIx_nat, HT.sIx_none, Nat.min_eq_left h]
  exact List.take_of_length_le (by rw [List.length_drop]; exact Nat.le_refl _)
theorem cut_hi {α : Type} {xs : List α} {k : Nat} (h : k ≤ xs.length) : cutL xs none (some (k : Int)) = xs.take k := by
  unfold cutL
  rw [HT.sIx_nat, HT.sIx_none, Nat.min_eq_left h]
  rfl
theorem add_lst {a b : List PyData} (h : a.length + b.length ≤ 1000000) : addP (.list a) (.list b) = some (.list (a ++ b)) := by
  show (if a.length + b.length ≤ 1000000 then some (PyData.list (a ++ b)) else none) = _
  exact if_pos h
theorem len_loc {n : Nat} {st : Sto} {ds : List D} (h : st[n]? = some (.lst ds)) : lenG (.loc n) st = some (.p (.int ds.length), st) := by
  show (match st[n]? with
    | some (.lst ds) => some (D.p (.int ds.length), st)
    | _ => none) = _
  rw [h]
theorem ix_loc {n : Nat} {st : Sto} {ds : List D} {k : Int} (h : st[n]? = some (.lst ds)) : ixG (.loc n) (.p (.int k)) st = (L2.atI ds k).map fun x => (x, st) := by
  show (match st[n]? with
    | some (.lst ds) => (L2.atI ds k).map fun x => (x, st)
    | _ => none) = _
  rw [h]
theorem at_last {α : Type} {xs : List α} {x : α} : L2.atI (xs ++ [x]) (-1) = some x := by
  unfold L2.atI L2.ixN
  have h1 : ¬ (0 : Int) ≤ -1 := by omega
  have h2 : -((xs ++ [x]).length : Int) ≤ -1 := by simp; omega
  rw [if_neg h1, if_pos h2]
  have e : ((-1) + ((xs ++ [x]).length : Int)).toNat = xs.length := by simp; omega
  show (xs ++ [x])[_]? = _
  rw [e]
  simp
theorem at_nat {α : Type} {xs : List α} {k : Nat} (h : k < xs.length) : L2.atI xs (k : Int) = some xs[k] := by
  unfold L2.atI L2.ixN
  rw [if_pos (by omega), if_pos (by omega)]
  show xs[(k : Int).toNat]? = _
  simp [h]
theorem Tp.get {rest st : Sto} {o : Ob} (h : Tp (rest ++ [o]) st) : st[rest.length + 2]? = some o := by
  obtain ⟨cells, seed, rfl, _⟩ := h
  unfold tp
  show (rest ++ [o])[rest.length]? = _
  exact get_last
theorem Tp.set {rest st : Sto} {o : Ob} (h : Tp (rest ++ [o]) st) (o' : Ob) : Tp (rest ++ [o']) (st.set (rest.length + 2) o') := by
  obtain ⟨cells, seed, rfl, h⟩ := h
  refine ⟨cells, seed, ?_, h⟩
  unfold tp
  show _ :: _ :: (rest ++ [o]).set rest.length o' = _
  rw [set_last]
theorem Tp.push {rest st : Sto} (h : Tp rest st) (o : Ob) : Tp (rest ++ [o]) (st ++ [o]) ∧ st.length = rest.length + 2 := by
  obtain ⟨cells, seed, rfl, h⟩ := h
  exact ⟨⟨cells, seed, rfl, h⟩, rfl⟩
theorem Tp.drop {rest st e : Sto} (h : Tp (rest ++ e) st) : Tp rest (st.take (rest.length + 2)) := by
  obtain ⟨cells, seed, rfl, h⟩ := h
  refine ⟨cells, seed, ?_, h⟩
  unfold tp
  show _ :: _ :: (rest ++ e).take rest.length = _
  rw [List.take_left]
theorem Tp.len {rest st : Sto} (h : Tp rest st) : st.length = rest.length + 2 := (h.push (.lst [])).2
theorem Tp.take {rest st : Sto} (h : Tp rest st) : st.take (rest.length + 2) = st := by
  rw [← h.len, List.take_length]
/-! ## a fraction drawn -/
theorem sz_draw {a b : Nat} (ha : a < 9) (hb : b < 3) : Sz 24 1 (Rat.divInt ((a : Int) - 4) (1 + (b : Int))) := by
  have key : ∀ k : Int, k * (1 + (b : Int)) = 6 → k = 6 ∨ k = 3 ∨ k = 2 → Sz 24 1 (Rat.divInt ((a : Int) - 4) (1 + (b : Int))) := fun k h hk => by
    refine ⟨((a : Int) - 4) * k, ?_, ?_⟩
    · have e : Rat.divInt (((a : Int) - 4) * k) ((1 + (b : Int)) * k) = Rat.divInt ((a : Int) - 4) (1 + (b : Int)) := Rat.divInt_mul_right (by omega)
      rw [← e, Int.mul_comm (1 + (b : Int)), h]
      rfl
    · rw [Int.natAbs_mul]
      have : ((a : Int) - 4).natAbs ≤ 4 := by omega
      have h2 : k.natAbs ≤ 6 := by omega
      exact Nat.mul_le_mul this h2
  have : b = 0 ∨ b = 1 ∨ b = 2 := by omega
  rcases this with rfl | rfl | rfl
  · exact key 6 (by decide) (.inl rfl)
  · exact key 3 (by decide) (.inr (.inl rfl))
  · exact key 2 (by decide) (.inr (.inr rfl))
theorem e_lfraction {rest st : Sto} (h : Tp rest st) : ∃ (q : Rat) (st' : Sto), φ__law_fraction [.loc 1] st = .ok (.p (rat q)) st' ∧ Sz 24 1 q ∧ Tp rest st' := by
  obtain ⟨a, st1, h1, h2, h3⟩ := e_draw h (many := 9) (by decide) (by decide)
  obtain ⟨b, st2, g1, g2, g3⟩ := e_draw h3 (many := 3) (by decide) (by decide)
  have hm := e_lmake ((a : Int) - 4) (1 + (b : Int)) st2 (by omega) (Nat.lt_of_le_of_lt (show (1 + (b : Int)).natAbs ≤ 3 by omega) (by decide))
  refine ⟨_, st2, ?_, sz_draw (a := a) (b := b) (by omega) (by omega), g3⟩
  simp [φ__law_fraction, N__law_fraction, m__law_fraction, h1, g1, hm, h.len, g3.take]
end Q
set_option Elab.async false
set_option linter.all false
set_option maxRecDepth 100000
set_option maxHeartbeats 4000000
set_option exponentiation.threshold 20000
namespace Q
open PySem PySem.Spec Fw
open L2 (Key)
/-! ## a monomial drawn -/
abbrev iL (l : List Int) : Ob := .lst ((l.map PyData.int).map .p)
theorem grow {rest s' : Sto} {its : List Int} (r : Int) (hl : its.length ≤ 1000) (ht : Tp (rest ++ [iL its]) s') : appendG (.loc (rest.length + 2)) [.p (.int r)] s' = some (.p .none, s'.set (rest.length + 2) (iL (its ++ [r]))) ∧ Tp (rest ++ [iL (its ++ [r])]) (s'.set (rest.length + 2) (iL (its ++ [r]))) ∧ ixG (.loc (rest.length + 2)) (.p (.int (-1))) (s'.set (rest.length + 2) (iL (its ++ [r]))) = some (.p (.int r), s'.set (rest.length + 2) (iL (its ++ [r]))) := by
  have e : ((its ++ [r]).map PyData.int).map D.p = (its.map PyData.int).map D.p ++ [.p (.int r)] := by simp
  refine ⟨?_, ht.set _, ?_⟩
  · rw [append_ev ht.get (by simp; omega) rfl]
    unfold iL
    rw [e]
  · rw [ix_loc (ht.set _).get]
    have a : L2.atI (((its ++ [r]).map PyData.int).map D.p) (-1) = some (.p (.int r)) := by rw [e, at_last]
    rw [a]
    rfl
def bTerm : MS := sSeq (sExp (mMth (mVar 6) (aCons (mIf (tB (m2 (m2 (mVar 3) (mC (.int 1)) (lift2 1 addP)) (mVar 1) (lift2 3 ltP))) (mCall (aCons (mVar 0) (aCons (m2 (mVar 5) (mC (.int 1)) (lift2 1 addP)) (aNil))) (sized 2 φ__law_draw)) (mVar 5)) (aNil)) appendG))
    (sSeq (sAsg (.nm 5) (m2 (mVar 5) (m2 (mVar 6) (m1 (mC (.int 1)) (lift1 1 negP)) ixG) (lift2 1 subP)))
    (sNil))
def eTerm (rest : Sto) (c most : Nat) (o : Option D) (left : Int) : Env' := [some (.loc 1), some (.p (.int c)), some (.p (.int most)), o, none, some (.p (.int left)), some (.loc (rest.length + 2))]
theorem s_term {rest s : Sto} {c most j left : Nat} {its : List Int} (e2 : Tp (rest ++ [iL its]) s) (e3 : its.length ≤ 1000) (hm : most ≤ 900) (e5 : left ≤ most) :
    ∃ (r : Nat) (s' : Sto), bTerm (eTerm rest c most (some (.p (.int j))) left) s = .nx (eTerm rest c most (some (.p (.int j))) ((left - r : Nat) : Int)) s' ∧ Tp (rest ++ [iL (its ++ [(r : Int)])]) s' ∧ r ≤ left := by
  have hisl := isLst_ev e2.get
  by_cases q : (j : Int) + 1 < (c : Int)
  · obtain ⟨r, s1, d1, d2, d3⟩ := e_draw e2 (many := (left : Int) + 1) (by omega) (by omega)
    obtain ⟨f1, f2, f3⟩ := grow (r : Int) e3 d3
    refine ⟨r, _, ?_, f2, by omega⟩
    have hsub : ((left - r : Nat) : Int) = (left : Int) - (r : Int) := by omega
    rw [hsub]
    simp [bTerm, eTerm, hisl, q, d1, f1, f3]
  · obtain ⟨f1, f2, f3⟩ := grow (left : Int) e3 e2
    refine ⟨left, _, ?_, f2, by omega⟩
    have hsub : ((left - left : Nat) : Int) = (left : Int) - (left : Int) := by omega
    rw [hsub]
    simp [bTerm, eTerm, hisl, q, f1, f3]
theorem l_term {rest s : Sto} {c most a : Nat} (hc2 : c ≤ 100) (hm : most ≤ 900) (ha : a ≤ most) (h : Tp (rest ++ [iL []]) s) :
    ∃ (its : List Int) (o : Option D) (left : Nat) (s' : Sto), sFor (iArgs (aCons (mVar 1) (aNil)) rng1) (.nm 3) bTerm (eTerm rest c most none a) s = .nx (eTerm rest c most o left) s' ∧ Tp (rest ++ [iL its]) s' ∧ its.length = c ∧ ∀ i ∈ its, 0 ≤ i ∧ i ≤ (most : Int) := by
  obtain ⟨env', st', l1, its, left, o, l2, l3, l4, l5, l6⟩ := for_inv (mi := iArgs (aCons (mVar 1) (aNil)) rng1) (g := .nm 3) (b := bTerm) (env := eTerm rest c most none a) (st := s) (src := .fix ((List.range c).map fun (j : Nat) => .p (.int j)))
    (fun i env s => ∃ (its : List Int) (left : Nat) (o : Option D), env = eTerm rest c most o left ∧ Tp (rest ++ [iL its]) s ∧ its.length = i ∧ (∀ i ∈ its, 0 ≤ i ∧ i ≤ (most : Int)) ∧ left ≤ most)
    (src_rng (n := c) (by simp [eTerm]) (by omega)) ⟨[], a, none, rfl, h, rfl, by simp, ha⟩ (fun i env s hs => rfl) fun i x env s hx ⟨its, left, o, e1, e2, e3, e4, e5⟩ => by
      rw [List.getElem?_map] at hx
      cases hi : (List.range c)[i]? with
      | none => rw [hi] at hx; cases hx
      | some j =>
        rw [hi] at hx
        cases hx
        subst e1
        have hic : i < c := by have := (List.getElem?_eq_some_iff.mp hi).1; simpa using this
        obtain ⟨r, s', g1, g2, g3⟩ := s_term (c := c) (j := j) e2 (by omega) hm e5
        refine ⟨eTerm rest c most (some (.p (.int j))) left, by simp [eTerm], _, s', .inl g1, its ++ [(r : Int)], left - r, _, rfl, g2, by simp [e3], fun i hi => ?_, by omega⟩
        rcases List.mem_append.mp hi with z | z
        · exact e4 i z
        · simp at z; omega
  refine ⟨its, o, left, st', by rw [l1, l2], l3, by simpa using l4, l5⟩
theorem e_lterm {rest st : Sto} (h : Tp rest st) {c most : Nat} (hc : 1 ≤ c) (hc2 : c ≤ 100) (hm : most ≤ 900) : ∃ (k : List Int) (st' : Sto), φ__law_term [.loc 1, .p (.int c), .p (.int most)] st = .ok (.p (tupI k)) st' ∧ (k.length = c ∧ (∀ i ∈ k, 0 ≤ i ∧ i ≤ (most : Int))) ∧ Tp rest st' := by
  obtain ⟨a, st1, h1, h2, h3⟩ := e_draw h (many := (most : Int) + 1) (by omega) (by omega)
  obtain ⟨p1, p2⟩ := h3.push (.lst [])
  obtain ⟨its, o, left, st', l1, l3, e4', l5⟩ := l_term (c := c) (a := a) hc2 hm (by omega) p1
  obtain ⟨b, st2, g1, g2, g3⟩ := e_draw l3 (many := (c : Int)) (by omega) (by omega)
  have v1 : ∀ f, lift1 1 f (.loc (rest.length + 2)) st2 = _ := fun f => lift1_lst (k := 0) (f := f) g3.get
  have c1 := cut_lo (xs := its.map PyData.int) (k := b) (by rw [List.length_map]; omega)
  have c2 := cut_hi (xs := its.map PyData.int) (k := b) (by rw [List.length_map]; omega)
  have ad := add_lst (a := (its.map PyData.int).drop b) (b := (its.map PyData.int).take b) (by rw [List.length_drop, List.length_take, List.length_map, e4']; exact Nat.le_trans (show c - b + min b c ≤ 100 by omega) (by decide))
  unfold bTerm eTerm at l1
  have sl : mL (aCons (m2 (mSl (mVar 6) (oSome (mVar 4)) (oNone)) (mSl (mVar 6) (oNone) (oSome (mVar 4))) (lift2 1 addP)) (aNil)) (gL1 (lift1 1 tupP)) [some (D.loc 1), some (D.p (PyData.int ↑c)), some (D.p (PyData.int ↑most)), o, some (.p (.int b)), some (D.p (PyData.int ↑left)), some (D.loc (List.length rest + 2))] st2 = .ok (.p (tupI (its.drop b ++ its.take b))) st2 := by
    have e : (its.map PyData.int).drop b ++ (its.map PyData.int).take b = (its.drop b ++ its.take b).map PyData.int := by rw [List.map_append, List.map_drop, List.map_take]
    rw [e] at ad
    generalize (its.map PyData.int).drop b = xs at *
    generalize (its.map PyData.int).take b = ys at *
    simp [v1, slP, c1, c2, ad, tupI]
  have g : fnDen N__law_term m__law_term [.loc 1, .p (.int c), .p (.int most)] st = .ok (.p (tupI (its.drop b ++ its.take b))) (st2.take (rest.length + 2)) := by
    unfold m__law_term
    clear g2 h2 l3 p1 g3 h3 l5
    generalize φ__law_draw = F at *
    generalize tupI (its.drop b ++ its.take b) = y at *
    generalize mL (aCons (m2 (mSl (mVar 6) (oSome (mVar 4)) (oNone)) (mSl (mVar 6) (oNone) (oSome (mVar 4))) (lift2 1 addP)) (aNil)) (gL1 (lift1 1 tupP)) = E at *
    simp [h1, p2, l1, g1, h.len, N__law_term, sl]
  refine ⟨its.drop b ++ its.take b, _, g, ⟨by simp; omega, fun i hi => l5 i ?_⟩, g3.drop⟩
  rcases List.mem_append.mp hi with z | z
  · exact List.mem_of_mem_drop z
  · exact List.mem_of_mem_take z
/-! ## a polynomial drawn -/
theorem terms_of {c most : Nat} : ∀ {as : List (List Int × Rat)}, (∀ a ∈ as, (a.1.length = c ∧ ∀ i ∈ a.1, 0 ≤ i ∧ i ≤ (most : Int)) ∧ Sz 24 1 a.2) → ∀ t ∈ as.map (fun a => ((a.1, rat a.2, a.2) : U)), Okt c 24 1 t := fun {as} h t ht => by
  obtain ⟨a, ha, rfl⟩ := List.mem_map.mp ht
  obtain ⟨⟨h1, h2⟩, h3⟩ := h a ha
  exact ⟨h1, fun i hi => (h2 i hi).1, IsR.rat _, h3⟩
/-- exponents are at most e -/
def Dg (e : Nat) (p : Po.P) : Prop := ∀ g, Po.co p g ≠ 0 → ∀ i, g i ≤ (e : Int)
theorem fn_le {k : List Int} {m : Int} (hm : 0 ≤ m) (h : ∀ i ∈ k, i ≤ m) (j : Nat) : fnE k j ≤ m := by
  unfold fnE
  rw [List.getD_eq_getElem?_getD]
  cases q : k[j]? with
  | none => exact hm
  | some x => exact h x (List.mem_of_getElem? q)
theorem Dg.cls {e : Nat} {l : List U} (h : ∀ t ∈ l, ∀ i ∈ t.1, i ≤ (e : Int)) : Dg e (Po.cls (mth l)) := fun g hg j => by
  refine Classical.byContradiction fun z => hg ?_
  rw [Po.co_cls]
  refine sem_out fun t ht e2 => z ?_
  rw [← e2]
  exact fn_le (by omega) (h t ht) j
theorem e_lpoly {rest st : Sto} (h : Tp rest st) {c most size : Nat} (hc : 1 ≤ c) (hc2 : c ≤ 100) (hm : most ≤ 900) (hs : size ≤ 900) : ∃ (r : PyData) (p : Po.P) (st' : Sto), φ__law_poly [.loc 1, .p (.int c), .p (.int most), .p (.int size)] st = .ok (.p r) st' ∧ (PolyD c (24 * size) 1 size r p ∧ Dg most p) ∧ Tp rest st' := by
  obtain ⟨n, st1, h1, h2, h3⟩ := e_draw h (many := (size : Int) + 1) (by omega) (by omega)
  obtain ⟨as, st2, g1, g2, g3, g4⟩ := comp_st (α := List Int × Rat) (I := Tp rest) (P := fun a => (a.1.length = c ∧ ∀ i ∈ a.1, 0 ≤ i ∧ i ≤ (most : Int)) ∧ Sz 24 1 a.2) (e := fun a => trm (a.1, rat a.2, a.2)) (mi := iArgs (aCons (mCall (aCons (mVar 0) (aCons (m2 (mVar 3) (mC (.int 1)) (lift2 1 addP)) (aNil))) (sized 2 φ__law_draw)) (aNil)) rng1) (g := .nm 4) (own := [4]) (m := mL (aCons (mCall (aCons (mVar 0) (aCons (mVar 1) (aCons (mVar 2) (aNil)))) (sized 3 φ__law_term)) (aCons (mCall (aCons (mVar 0) (aNil)) (sized 1 φ__law_fraction)) (aNil))) gTupD)
    (env := [some (.loc 1), some (.p (.int c)), some (.p (.int most)), some (.p (.int size)), none]) (st0 := st) h3 (src_rng (n := n) (by simp [h1]) (by omega)) (by simp; omega) fun st hst x hx => by
      obtain ⟨j, _, rfl⟩ := List.mem_map.mp hx
      obtain ⟨k, s1, a1, a2, a3⟩ := e_lterm hst hc hc2 hm
      obtain ⟨q, s2, b1, b2, b3⟩ := e_lfraction a3
      refine ⟨[some (.loc 1), some (.p (.int c)), some (.p (.int most)), some (.p (.int size)), some (.p (.int j))], (k, q), s2, by simp [wipeE], ?_, ⟨a2, b2⟩, b3⟩
      simp [a1, b1, trm]
  have hmap : as.map (fun a => trm (a.1, rat a.2, a.2)) = (as.map fun a => ((a.1, rat a.2, a.2) : U)).map trm := by rw [List.map_map]; rfl
  rw [hmap] at g1
  have hlen : as.length ≤ size := by rw [g2]; simp; omega
  have hle : 24 * (as.map fun a => ((a.1, rat a.2, a.2) : U)).length ≤ 24 * size := by rw [List.length_map]; omega
  obtain ⟨r, e1, R, q1, q2, q3, q4⟩ := e_lgather (d := .p (.list ((as.map fun a => ((a.1, rat a.2, a.2) : U)).map trm))) (st := st2) (.inr (.inl rfl)) hc (terms_of g3) (Nat.lt_of_le_of_lt hle (Nat.lt_of_le_of_lt (show 24 * size ≤ 2 ^ 20 by omega) (by decide))) (by decide) (by rw [List.length_map]; omega)
  refine ⟨r, _, st2, ?_, ⟨⟨R, ⟨fun t ht => ⟨(q1.ok t ht).len, (q1.ok t ht).nn, (q1.ok t ht).isr, (q1.ok t ht).sz.mono hle⟩, q1.nz, q1.desc⟩, q2, ?_, q4⟩, Dg.cls fun t ht i hi => ?_⟩, g4⟩
  · simp [φ__law_poly, N__law_poly, m__law_poly, g1, e1, h.len, g4.take, -List.map_map]
  · rw [List.length_map] at q3; omega
  · obtain ⟨a, ha, rfl⟩ := List.mem_map.mp ht
    exact ((g3 a ha).1.2 i hi).2
end Q
set_option Elab.async false
set_option linter.all false
set_option maxRecDepth 100000
set_option maxHeartbeats 4000000
set_option exponentiation.threshold 20000
namespace Q
open PySem PySem.Spec Fw
open L2 (Key)
/-! ## polynomials with a weight -/
def Pg (n w T : Nat) (d : PyData) (p : Po.P) : Prop := PolyD n (2 ^ (4 * w)) w T d p
theorem Okt.up {n c k : Nat} {t : U} (h : Okt n c k t) (j : Nat) : Okt n (c * 6 ^ j) (k + j) t := ⟨h.len, h.nn, h.isr, h.sz.up j⟩
theorem Okt.mono {n c d k : Nat} {t : U} (h : Okt n c k t) (le : c ≤ d) : Okt n d k t := ⟨h.len, h.nn, h.isr, h.sz.mono le⟩
theorem PolyD.up {n c k T : Nat} {d : PyData} {p : Po.P} (h : PolyD n c k T d p) (j : Nat) : PolyD n (c * 6 ^ j) (k + j) T d p :=
  let ⟨l, h1, h2, h3, h4⟩ := h; ⟨l, ⟨fun t ht => (h1.ok t ht).up j, h1.nz, h1.desc⟩, h2, h3, h4⟩
theorem PolyD.mono {n c d k T T' : Nat} {x : PyData} {p : Po.P} (h : PolyD n c k T x p) (le : c ≤ d) (le' : T ≤ T') : PolyD n d k T' x p :=
  let ⟨l, h1, h2, h3, h4⟩ := h; ⟨l, ⟨fun t ht => (h1.ok t ht).mono le, h1.nz, h1.desc⟩, h2, by omega, h4⟩
theorem six_le (j : Nat) : 6 ^ j ≤ 2 ^ (3 * j) := by
  rw [Nat.pow_mul]
  exact Nat.pow_le_pow_left (by decide) j
/-- a poly whose numbers are at most 2^(4 w + e) over 6^w is of weight w + e -/
theorem Pg.of {n w T e : Nat} {d : PyData} {p : Po.P} {c : Nat} (h : PolyD n c w T d p) (hc : c ≤ 2 ^ (4 * w + e)) : Pg n (w + e) T d p := by
  have := (h.up e).mono (d := 2 ^ (4 * (w + e))) (T' := T) ?_ (Nat.le_refl _)
  · exact this
  · calc c * 6 ^ e ≤ 2 ^ (4 * w + e) * 2 ^ (3 * e) := Nat.mul_le_mul hc (six_le e)
      _ = 2 ^ (4 * (w + e)) := by rw [← Nat.pow_add]; congr 1; omega
theorem Pg.mono {n w w' T T' : Nat} {d : PyData} {p : Po.P} (h : Pg n w T d p) (hw : w ≤ w') (hT : T ≤ T') : Pg n w' T' d p := by
  have := Pg.of (e := w' - w) h (Nat.pow_le_pow_right (by decide) (by omega))
  rw [show w + (w' - w) = w' by omega] at this
  exact PolyD.mono this (Nat.le_refl _) hT
theorem pow_lt {w : Nat} (h : w ≤ 990) : 2 ^ (4 * w) < 2 ^ 4000 ∧ 6 ^ w < 2 ^ 4000 :=
  ⟨Nat.pow_lt_pow_right (by decide) (by omega), Nat.lt_of_le_of_lt (six_le w) (Nat.pow_lt_pow_right (by decide) (by omega))⟩
theorem cT_le {w T e : Nat} (hT : T ≤ 2 ^ e) : 2 ^ (4 * w) * T ≤ 2 ^ (4 * w + e) := by
  rw [Nat.pow_add]
  exact Nat.mul_le_mul_left _ hT
theorem two_c {w : Nat} : 2 ^ (4 * w) + 2 ^ (4 * w) = 2 ^ (4 * w + 1) := by rw [Nat.pow_succ]; omega
theorem sumc {w T : Nat} (hT : T ≤ 1000000) : (2 ^ (4 * w) + 2 ^ (4 * w)) * T ≤ 2 ^ (4 * w + 21) := by
  rw [two_c]
  calc 2 ^ (4 * w + 1) * T ≤ 2 ^ (4 * w + 1) * 2 ^ 20 := Nat.mul_le_mul_left _ (Nat.le_trans hT (by decide))
    _ = 2 ^ (4 * w + 21) := by rw [← Nat.pow_add]
theorem sumlt {w T : Nat} (hw : w + 21 ≤ 990) (hT : T ≤ 1000000) : (2 ^ (4 * w) + 2 ^ (4 * w)) * T < 2 ^ 4000 := Nat.lt_of_le_of_lt (sumc hT) (Nat.pow_lt_pow_right (by decide) (by omega))
section
variable {a b : PyData} {p q : Po.P} {n w w' T T' : Nat} {st : Sto}
theorem g_add (ha : Pg n w T a p) (hb : Pg n w T' b q) (hn : 1 ≤ n) (hw : w + 21 ≤ 990) (hT : T + T' ≤ 1000000) (st : Sto) : ∃ r, φ_add_polys [.p a, .p b] st = .ok (.p r) st ∧ Pg n (w + 21) (T + T') r (p + q) := by
  obtain ⟨r, h1, h2⟩ := e_add ha hb hn hT (sumlt hw hT) (pow_lt (by omega)).2 st
  exact ⟨r, h1, Pg.of h2 (sumc hT)⟩
theorem g_sub (ha : Pg n w T a p) (hb : Pg n w T' b q) (hn : 1 ≤ n) (hw : w + 21 ≤ 990) (hT : T + T' ≤ 1000000) (st : Sto) : ∃ r, φ_subtract [.p a, .p b] st = .ok (.p r) st ∧ Pg n (w + 21) (T + T') r (p - q) := by
  obtain ⟨r, h1, h2⟩ := e_subtract ha hb hn hT (sumlt hw hT) (pow_lt (by omega)).2 st
  exact ⟨r, h1, Pg.of h2 (sumc hT)⟩
theorem mulc {T T' : Nat} (hT : T * T' ≤ 900000) : 2 ^ (4 * w) * 2 ^ (4 * w') * (T * T') ≤ 2 ^ (4 * (w + w') + 20) := by
  calc 2 ^ (4 * w) * 2 ^ (4 * w') * (T * T') ≤ 2 ^ (4 * w) * 2 ^ (4 * w') * 2 ^ 20 := Nat.mul_le_mul_left _ (Nat.le_trans hT (by decide))
    _ = 2 ^ (4 * (w + w') + 20) := by rw [← Nat.pow_add, ← Nat.pow_add]; congr 1; omega
theorem g_mul (ha : Pg n w T a p) (hb : Pg n w' T' b q) (hn : 1 ≤ n) (hn2 : n ≤ 1000) (hw : w + w' + 20 ≤ 990) (hT : T * T' ≤ 900000) (hT' : T' ≤ 900000) (st : Sto) : ∃ r, φ_multiply_polys [.p a, .p b] st = .ok (.p r) st ∧ Pg n (w + w' + 20) (T * T') r (p * q) := by
  obtain ⟨r, h1, h2⟩ := e_multiply ha hb hn hn2 hT hT' (Nat.lt_of_le_of_lt (mulc hT) (Nat.pow_lt_pow_right (by decide) (by omega))) (pow_lt (by omega)).1 (pow_lt (by omega)).1 (pow_lt (by omega)).2 st
  exact ⟨r, h1, Pg.of h2 (mulc hT)⟩
theorem g_neg (ha : Pg n w T a p) (hT : T ≤ 1000000) (st : Sto) : ∃ r, φ_negative_polys [.p a] st = .ok (.p r) st ∧ Pg n w T r (-p) := by
  obtain ⟨l, hl, rfl, hlT, rfl⟩ := ha
  exact ⟨_, e_negative hl (by omega) st, negU l, hl.negU, rfl, by unfold negU; rw [List.length_map]; exact hlT, by rw [negU_mth]; rfl⟩
/-! ## the law's own -/
theorem g_gather {d : D} {l : List U} (hs : SrcD d st (l.map trm)) (hn : 1 ≤ n) (ht : ∀ t ∈ l, Okt n (2 ^ (4 * w)) w t) (hl : l.length ≤ T) (hT : T ≤ 1000000) (hw : w + 20 ≤ 990) : ∃ r, φ__law_gather [d] st = .ok (.p r) st ∧ Pg n (w + 20) T r (Po.cls (mth l)) := by
  have hc : 2 ^ (4 * w) * l.length ≤ 2 ^ (4 * w + 20) := cT_le (Nat.le_trans (Nat.le_trans hl hT) (by decide))
  obtain ⟨r, h1, h2⟩ := e_lgather hs hn ht (Nat.lt_of_le_of_lt hc (Nat.pow_lt_pow_right (by decide) (by omega))) (pow_lt (by omega)).2 (by omega)
  exact ⟨r, h1, (Pg.of h2 hc).mono (Nat.le_refl _) hl⟩
theorem g_ltotal (ha : Pg n w T a p) (hb : Pg n w T' b q) (hn : 1 ≤ n) (hw : w + 20 ≤ 990) (hT : T + T' ≤ 1000000) (st : Sto) : ∃ r, φ__law_total [.p a, .p b] st = .ok (.p r) st ∧ Pg n (w + 20) (T + T') r (p + q) := by
  obtain ⟨l, hl, rfl, hlT, rfl⟩ := ha
  obtain ⟨m, hm, rfl, hmT, rfl⟩ := hb
  obtain ⟨r, h1, h2⟩ := g_gather (st := st) (d := .p (.tuple ((l ++ m).map trm))) (l := l ++ m) (T := T + T') (.inl rfl) hn (fun t ht => (List.mem_append.mp ht).elim (hl.ok t) (hm.ok t)) (by rw [List.length_append]; omega) hT hw
  have had := add_tup (a := l.map trm) (b := m.map trm) (by rw [List.length_map, List.length_map]; omega)
  rw [← List.map_append] at had
  refine ⟨r, ?_, by rw [mth_append] at h2; exact h2⟩
  simp [φ__law_total, N__law_total, m__law_total, had, h1, -List.map_append]
theorem g_lless (ha : Pg n w T a p) (hb : Pg n w T' b q) (hn : 1 ≤ n) (hw : w + 20 ≤ 990) (hT : T + T' ≤ 1000000) (st : Sto) : ∃ r, φ__law_less [.p a, .p b] st = .ok (.p r) st ∧ Pg n (w + 20) (T + T') r (p - q) := by
  obtain ⟨l, hl, rfl, hlT, rfl⟩ := ha
  obtain ⟨m, hm, rfl, hmT, rfl⟩ := hb
  have hm' := hm.negU
  have hlen : (negU m).length = m.length := by unfold negU; rw [List.length_map]
  obtain ⟨r, h1, h2⟩ := g_gather (st := st) (d := .p (.tuple ((l ++ negU m).map trm))) (l := l ++ negU m) (T := T + T') (.inl rfl) hn (fun t ht => (List.mem_append.mp ht).elim (hl.ok t) (hm'.ok t)) (by rw [List.length_append]; omega) hT hw
  have had := add_tup (a := l.map trm) (b := (negU m).map trm) (by rw [List.length_map, List.length_map]; omega)
  rw [← List.map_append] at had
  have hc := comp_terms (i := 1) (j1 := 2) (j2 := 3) (m := mL (aCons (mVar 2) (aCons (mL (aCons (m1 (m2 (mVar 3) (mC (.int 0)) ixG) (lift1 1 negP)) (aCons (m2 (mVar 3) (mC (.int 1)) ixG) (aNil))) gTupD) (aNil))) gTupD) (env := [some (.p (.tuple (l.map trm))), some (.p (.tuple (m.map trm))), none, none]) (st := st) (l := m) (f := fun t => (t.1, rat (-t.2.2), -t.2.2)) (e1 := fun t => [some (.p (.tuple (l.map trm))), some (.p (.tuple (m.map trm))), some (.p (tupI t.1)), some (.p t.2.1)]) rfl (by omega) (fun t => by simp [wipeE, trm]) fun t ht => by
      have i1 := fun k st => ixG_opn (st := st) (k := k) (hm.ok t ht).isr
      simp [i1, trm, rat]
  refine ⟨r, ?_, by rw [mth_append, negU_mth] at h2; exact h2⟩
  have e : (m.map fun t => ((t.1, rat (-t.2.2), -t.2.2) : U)) = negU m := rfl
  rw [e] at hc
  simp [φ__law_less, N__law_less, m__law_less, hc, had, h1, -List.map_append]
/-- a number times a polynomial -/
def scU (s : Rat) (l : List U) : List U := l.map fun t => (t.1, rat (s * t.2.2), s * t.2.2)
theorem scU_mth (s : Rat) (l : List U) : Po.cls (mth (scU s l)) = Po.C s * Po.cls (mth l) := by
  unfold Po.C
  rw [← Po.cls_mul]
  have e : mth (scU s l) = Po.mul [(fun _ => 0, s)] (mth l) := by
    show _ = Po.tmul (fun _ => 0, s) (mth l) ++ []
    rw [List.append_nil]
    unfold mth scU Po.tmul
    rw [List.map_map, List.map_map]
    apply List.map_congr_left
    intro t _
    simp only [Function.comp, Prod.mk.injEq, and_true]
    funext i
    show fnE t.1 i = 0 + fnE t.1 i
    rw [Int.zero_add]
  rw [e]
theorem scale_ok {l : List U} {c k d j : Nat} {s : Rat} (hs : Sz d j s) (h : ∀ t ∈ l, Okt n c k t) : ∀ t ∈ scU s l, Okt n (d * c) (j + k) t := fun t ht => by
  obtain ⟨u, hu, rfl⟩ := List.mem_map.mp ht
  exact ⟨(h u hu).len, (h u hu).nn, IsR.rat _, hs.mul (h u hu).sz⟩
theorem comp_scaled {x : PyData} {s : Rat} {l : List U} {c k d j : Nat} (hx : IsR x s) (hs : Sz d j s) (h : ∀ t ∈ l, Okt n c k t) (hl : l.length ≤ 1000000) (hd : d < 2 ^ 4000) (hc : c < 2 ^ 4000) (hj : 6 ^ j < 2 ^ 4000) (hk : 6 ^ k < 2 ^ 4000) : mCompV false 1 (.tp (.cons (.nm 2) (.cons (.nm 3) .nil))) [2, 3] (tTr) (mL (aCons (mVar 2) (aCons (mCall (aCons (mVar 0) (aCons (mVar 3) (aNil))) (sized 2 φ__law_by)) (aNil))) gTupD) [some (.p x), some (.p (.tuple (l.map trm))), none, none] st = .ok (.p (.list ((scU s l).map trm))) st :=
  comp_terms (i := 1) (j1 := 2) (j2 := 3) (env := [some (.p x), some (.p (.tuple (l.map trm))), none, none]) (st := st) (l := l) (f := fun t => (t.1, rat (s * t.2.2), s * t.2.2)) (e1 := fun t => [some (.p x), some (.p (.tuple (l.map trm))), some (.p (tupI t.1)), some (.p t.2.1)]) rfl hl (fun t => by simp [wipeE, trm]) fun t ht => by
    have h1 := e_lby (st := st) hx (h t ht).isr (hs.nb hd hj) ((h t ht).sz.nb hc hk) (by decide)
    simp [h1, trm]
theorem g_lscaled {x : PyData} {s : Rat} (hx : IsR x s) (hs : Sz (2 ^ (4 * w)) w s) (hb : Pg n w' T b q) (hn : 1 ≤ n) (hw : w + w' + 20 ≤ 990) (hT : T ≤ 1000000) (st : Sto) : ∃ r, φ__law_scaled [.p x, .p b] st = .ok (.p r) st ∧ Pg n (w + w' + 20) T r (Po.C s * q) := by
  obtain ⟨l, hl, rfl, hlT, rfl⟩ := hb
  have ok := scale_ok hs hl.ok
  have e : 2 ^ (4 * w) * 2 ^ (4 * w') = 2 ^ (4 * (w + w')) := by rw [← Nat.pow_add]; congr 1; omega
  rw [e] at ok
  obtain ⟨r, h1, h2⟩ := g_gather (st := st) (d := .p (.list ((scU s l).map trm))) (l := scU s l) (T := T) (.inr (.inl rfl)) hn ok (by unfold scU; rw [List.length_map]; exact hlT) hT hw
  have hc := comp_scaled (st := st) hx hs hl.ok (by omega) (pow_lt (by omega)).1 (pow_lt (by omega)).1 (pow_lt (by omega)).2 (pow_lt (by omega)).2
  refine ⟨r, ?_, by rw [scU_mth] at h2; exact h2⟩
  simp [φ__law_scaled, N__law_scaled, m__law_scaled, hc, h1]
/-! numbers -/
theorem mul_tup {c : Nat} (h : c ≤ 1000) : mulP (.tuple [.int 0]) (.int c) = some (tupI (List.replicate c 0)) := by
  show (if 0 ≤ (c : Int) ∧ (c : Int) ≤ 1000 ∧ [PyData.int 0].length ≤ 1000 ∧ [PyData.int 0] ≠ [] then some (PyData.tuple (List.replicate (c : Int).toNat [PyData.int 0]).flatten) else none) = _
  rw [if_pos ⟨by omega, by omega, by simp, by simp⟩]
  have : (List.replicate (c : Int).toNat [PyData.int 0]).flatten = (List.replicate c (0 : Int)).map PyData.int := by
    rw [Int.toNat_natCast, List.map_replicate]
    clear h
    induction c with
    | zero => rfl
    | succ c ih => rw [List.replicate_succ, List.flatten_cons, ih, List.replicate_succ]; rfl
  rw [this]
  rfl
theorem one_term {c : Nat} {x : PyData} {s : Rat} (hx : IsR x s) (hs : Sz (2 ^ (4 * w)) w s) (h0 : s ≠ 0) : Pg c w 1 (.tuple [.tuple [tupI (List.replicate c 0), x]]) (Po.C s) := by
  refine ⟨[(List.replicate c 0, x, s)], ⟨fun t ht => ?_, fun t ht => ?_, by simp⟩, rfl, by simp, ?_⟩
  · rw [List.mem_singleton.mp ht]
    exact ⟨by simp, fun i hi => by rw [List.eq_of_mem_replicate hi]; omega, hx, hs⟩
  · rw [List.mem_singleton.mp ht]; exact h0
  · show Po.cls [(fnE (List.replicate c 0), s)] = Po.C s
    unfold Po.C
    congr 3
    funext i
    unfold fnE
    rw [List.getD_eq_getElem?_getD, List.getElem?_replicate]
    split <;> rfl
theorem C_zero : Po.C 0 = 0 := rfl
theorem nil_poly {c : Nat} : Pg c w 0 (.tuple []) 0 := ⟨[], ⟨fun t ht => (by cases ht), fun t ht => (by cases ht), List.Pairwise.nil⟩, rfl, Nat.le_refl _, by
  apply Po.ext
  intro k
  rw [← C_zero, Po.co_C, Po.co_cls]
  show (0 : Rat) = _
  split <;> rfl⟩
theorem g_lnumber {c : Nat} {x : PyData} {s : Rat} (hx : IsR x s) (hs : Sz (2 ^ (4 * w)) w s) (hc : c ≤ 1000) (st : Sto) : ∃ r, φ__law_number [.p (.int c), .p x] st = .ok (.p r) st ∧ Pg c w 1 r (Po.C s) := by
  have hix := fun st => ixG_opn (st := st) (k := 0) hx
  have hm := mul_tup hc
  by_cases h0 : s = 0
  · subst h0
    refine ⟨.tuple [], ?_, nil_poly.mono (Nat.le_refl _) (by omega)⟩
    simp [φ__law_number, N__law_number, m__law_number, hix]
  · have hn : s.num ≠ 0 := fun e => h0 (Rat.num_eq_zero.mp e)
    refine ⟨_, ?_, one_term hx hs h0⟩
    simp [φ__law_number, N__law_number, m__law_number, hix, hn, hm]
theorem g_unit {c : Nat} (hc : c ≤ 1000) (st : Sto) : φ_unit [.p (.int c)] st = .ok (.p (tupI (List.replicate c 0))) st := by
  simp [φ_unit, N_unit, m_unit, mul_tup hc]
theorem g_constant {c : Nat} {x : PyData} {s : Rat} (hx : IsR x s) (hs : Sz (2 ^ (4 * w)) w s) (hc : c ≤ 1000) (st : Sto) : ∃ r, φ_constant [.p (.int c), .p x] st = .ok (.p r) st ∧ Pg c w 1 r (Po.C s) := by
  have hz := neP_zero hx
  have hu := fun st => g_unit hc st
  by_cases h0 : s = 0
  · subst h0
    refine ⟨.tuple [], ?_, nil_poly.mono (Nat.le_refl _) (by omega)⟩
    simp [φ_constant, N_constant, m_constant, hz]
  · refine ⟨_, ?_, one_term hx hs h0⟩
    simp [φ_constant, N_constant, m_constant, hz, h0, hu]
end
end Q
set_option Elab.async false
set_option linter.all false
set_option maxRecDepth 100000
set_option maxHeartbeats 4000000
set_option exponentiation.threshold 20000
namespace Q
open PySem PySem.Spec Fw
open L2 (Key)
/-! ## the law's product -/
/-- within the hand layer's sizes -/
def Sma (c k : Nat) : Prop := c < 2 ^ 4000 ∧ 6 ^ k < 2 ^ 4000
def uL (l : List U) : Ob := .lst ((l.map trm).map D.p)
theorem uL_app {st : Sto} {done : List U} (t : U) (h : done.length ≤ 1000000) : appendG (.loc st.length) [.p (.tuple [.tuple (t.1.map .int), t.2.1])] (st ++ [uL done]) = some (.p .none, st ++ [uL (done ++ [t])]) := by
  have hst : (st ++ [uL done])[st.length]? = some (.lst ((done.map trm).map D.p)) := get_last
  rw [append_ev hst (by simpa using h) rfl, set_last]
  have e : (done.map trm).map D.p ++ [.p (.tuple [.tuple (t.1.map .int), t.2.1])] = ((done ++ [t]).map trm).map D.p := by simp [trm, tupI]
  rw [e]
  rfl
theorem uL_lst {st : Sto} {done : List U} : isLst (.loc st.length) (st ++ [uL done]) = true := isLst_ev (ds := (done.map trm).map D.p) get_last
def eProd (n : Nat) (x y : PyData) (o3 o4 o5 o6 : Option D) : Env' := [some (.p x), some (.p y), some (.loc n), o3, o4, o5, o6, none]
def bProd : MS := sSeq (sExp (mMth (mVar 2) (aCons (mL (aCons (mL (aCons (mComp false (iArgs (aCons (mL (aCons (mVar 3) (aNil)) (gL1 lenG)) (aNil)) rng1) (.nm 7) [7] (tTr) (m2 (m2 (mVar 3) (mVar 7) ixG) (m2 (mVar 5) (mVar 7) ixG) (lift2 1 addP))) (aNil)) (gL1 (lift1 1 tupP))) (aCons (mCall (aCons (mVar 4) (aCons (mVar 6) (aNil))) (sized 2 φ__law_by)) (aNil))) gTupD) (aNil)) appendG))
    (sNil)
theorem core {M : Env' → M D} {F : List D → Fw.M D} {x y a b c d e : PyData} {ks : List PyData} {st : Sto} {o1 o2 : Ob}
  (hisl : isLst (.loc st.length) (st ++ [o1]) = true)
  (hcomp : M [some (.p x), some (.p y), some (.loc st.length), some (.p a), some (.p b), some (.p c), some (.p d), none] (st ++ [o1]) = .ok (.p (.list ks)) (st ++ [o1]))
  (hby : F [.p b, .p d] (st ++ [o1]) = .ok (.p e) (st ++ [o1]))
  (hap : appendG (.loc st.length) [.p (.tuple [.tuple ks, e])] (st ++ [o1]) = some (.p .none, st ++ [o2])) :
  sSeq (sExp (mMth (mVar 2) (aCons (mL (aCons (mL (aCons M (aNil)) (gL1 (lift1 1 tupP))) (aCons (mCall (aCons (mVar 4) (aCons (mVar 6) (aNil))) (sized 2 F)) (aNil))) gTupD) (aNil)) appendG))
    (sNil) [some (.p x), some (.p y), some (.loc st.length), some (.p a), some (.p b), some (.p c), some (.p d), none] (st ++ [o1]) = .nx [some (.p x), some (.p y), some (.loc st.length), some (.p a), some (.p b), some (.p c), some (.p d), none] (st ++ [o2]) := by
  simp [hisl, hcomp, hby, hap]
theorem zip_range (a b : List Int) (h : a.length = b.length) : ((List.range a.length).map fun (j : Nat) => PyData.int (a.getD j 0 + b.getD j 0)) = (a.zipWith (· + ·) b).map .int := by
  apply List.ext_getElem
  · simp [h]
  · intro i h1 h2
    simp at h1 h2
    have h3 : i < b.length := by omega
    simp [h1, h3, List.getD_eq_getElem?_getD]
theorem ix_tupI {a : List Int} {j : Nat} {st : Sto} (h : j < a.length) : ixG (.p (tupI a)) (.p (.int j)) st = some (.p (.int (a.getD j 0)), st) := by
  unfold tupI
  rw [ev_ixT, at_nat (by simpa using h)]
  simp [h, List.getD_eq_getElem?_getD]
theorem s_prod {n0 c k c' k' : Nat} {x y : PyData} {st : Sto} {s t : U} {done : List U} (hs : Okt n0 c k s) (ht : Okt n0 c' k' t) (hn : n0 ≤ 1000) (hd : done.length ≤ 1000000) (hc : Sma c k) (hc' : Sma c' k') :
    bProd (eProd st.length x y (some (.p (tupI s.1))) (some (.p s.2.1)) (some (.p (tupI t.1))) (some (.p t.2.1))) (st ++ [uL done]) = .nx (eProd st.length x y (some (.p (tupI s.1))) (some (.p s.2.1)) (some (.p (tupI t.1))) (some (.p t.2.1))) (st ++ [uL (done ++ [(s.1.zipWith (· + ·) t.1, rat (s.2.2 * t.2.2), s.2.2 * t.2.2)])]) := by
  have hlen : s.1.length = t.1.length := by rw [hs.len, ht.len]
  have hcomp := comp_all (mi := iArgs (aCons (mL (aCons (mVar 3) (aNil)) (gL1 lenG)) (aNil)) rng1) (own := [7]) (g := .nm 7) (m := m2 (m2 (mVar 3) (mVar 7) ixG) (m2 (mVar 5) (mVar 7) ixG) (lift2 1 addP)) (env := eProd st.length x y (some (.p (tupI s.1))) (some (.p s.2.1)) (some (.p (tupI t.1))) (some (.p t.2.1))) (st := st ++ [uL done]) (st0 := st ++ [uL done]) (xs := List.range s.1.length) (e := fun (j : Nat) => .int j) (h := fun j => .int (s.1.getD j 0 + t.1.getD j 0))
    (src_rng (n := s.1.length) (by simp [eProd, tupI]) (by rw [hs.len]; omega)) (by rw [List.length_range, hs.len]; omega) fun j hj => by
      have hj' := List.mem_range.mp hj
      have i1 := fun st => ix_tupI (st := st) (a := s.1) hj'
      have i2 := fun st => ix_tupI (st := st) (a := t.1) (j := j) (by omega)
      exact turn_all (env1 := [some (.p x), some (.p y), some (.loc st.length), some (.p (tupI s.1)), some (.p s.2.1), some (.p (tupI t.1)), some (.p t.2.1), some (.p (.int j))]) (by simp [eProd, wipeE]) (by simp [i1, i2])
  rw [zip_range _ _ hlen] at hcomp
  have hby := e_lby (st := st ++ [uL done]) hs.isr ht.isr (hs.sz.nb hc.1 hc.2) (ht.sz.nb hc'.1 hc'.2) (by decide)
  have hap := uL_app (st := st) (s.1.zipWith (· + ·) t.1, rat (s.2.2 * t.2.2), s.2.2 * t.2.2) hd
  simp only at hap
  have hisl := uL_lst (st := st) (done := done)
  exact core hisl hcomp hby hap
theorem l_prod1 {n0 c k c' k' : Nat} {x : PyData} {st : Sto} {s : U} {l done : List U} {o5 o6 : Option D} (hs : Okt n0 c k s) (ht : ∀ t ∈ l, Okt n0 c' k' t) (hn : n0 ≤ 1000) (hd : done.length + l.length ≤ 1000000) (hc : Sma c k) (hc' : Sma c' k') :
    ∃ o5' o6', sFor (iSeq (mVar 1)) (.tp (.cons (.nm 5) (.cons (.nm 6) .nil))) bProd (eProd st.length x (.tuple (l.map trm)) (some (.p (tupI s.1))) (some (.p s.2.1)) o5 o6) (st ++ [uL done]) = .nx (eProd st.length x (.tuple (l.map trm)) (some (.p (tupI s.1))) (some (.p s.2.1)) o5' o6') (st ++ [uL (done ++ shU s l)]) := by
  obtain ⟨env', st', h3, a, b, rfl, rfl⟩ := for_inv (mi := iSeq (mVar 1)) (src := .fix ((l.map trm).map .p)) (g := .tp (.cons (.nm 5) (.cons (.nm 6) .nil))) (b := bProd) (ds := (l.map trm).map .p) (env := eProd st.length x (.tuple (l.map trm)) (some (.p (tupI s.1))) (some (.p s.2.1)) o5 o6) (st := st ++ [uL done]) (st1 := st ++ [uL done])
    (fun i env z => ∃ a b, env = eProd st.length x (.tuple (l.map trm)) (some (.p (tupI s.1))) (some (.p s.2.1)) a b ∧ z = st ++ [uL (done ++ shU s (l.take i))]) (iSeq_tup rfl) ⟨o5, o6, rfl, by simp [shU]⟩ (fun _ _ _ _ => rfl) fun i d env z hx ⟨a, b, e1, e2⟩ => by
      rw [List.map_map, List.getElem?_map] at hx
      cases hi : l[i]? with
      | none => rw [hi] at hx; cases hx
      | some t =>
        rw [hi] at hx
        cases hx
        have hil : i < l.length := (List.getElem?_eq_some_iff.mp hi).1
        have htm : t ∈ l := List.mem_of_getElem? hi
        have htk : shU s (l.take (i + 1)) = shU s (l.take i) ++ [(s.1.zipWith (· + ·) t.1, rat (s.2.2 * t.2.2), s.2.2 * t.2.2)] := by
          rw [List.take_add_one, hi]
          unfold shU
          rw [List.map_append]
          rfl
        subst e1 e2
        have hl2 : (done ++ shU s (l.take i)).length ≤ 1000000 := by
          unfold shU
          rw [List.length_append, List.length_map, List.length_take]
          omega
        have g := s_prod (x := x) (y := .tuple (l.map trm)) (st := st) hs (ht t htm) hn hl2 hc hc'
        rw [List.append_assoc, ← htk] at g
        exact ⟨eProd st.length x (.tuple (l.map trm)) (some (.p (tupI s.1))) (some (.p s.2.1)) (some (.p (tupI t.1))) (some (.p t.2.1)), by simp [eProd, trm], _, _, .inl g, _, _, rfl, rfl⟩
  refine ⟨a, b, ?_⟩
  rw [h3]
  simp
theorem l_prod {n0 c k c' k' : Nat} {st : Sto} {l m : List U} (hs : ∀ t ∈ l, Okt n0 c k t) (ht : ∀ t ∈ m, Okt n0 c' k' t) (hn : n0 ≤ 1000) (hd : l.length * m.length ≤ 900000) (hm : m.length ≤ 90000) (hc : Sma c k) (hc' : Sma c' k') :
    ∃ o3 o4 o5 o6, sFor (iSeq (mVar 0)) (.tp (.cons (.nm 3) (.cons (.nm 4) .nil))) (sSeq (sFor (iSeq (mVar 1)) (.tp (.cons (.nm 5) (.cons (.nm 6) .nil))) bProd) (sNil)) (eProd st.length (.tuple (l.map trm)) (.tuple (m.map trm)) none none none none) (st ++ [uL []]) = .nx (eProd st.length (.tuple (l.map trm)) (.tuple (m.map trm)) o3 o4 o5 o6) (st ++ [uL (mulU l m)]) := by
  obtain ⟨env', st', h3, a, b, c2, d2, rfl, rfl⟩ := for_inv (mi := iSeq (mVar 0)) (src := .fix ((l.map trm).map .p)) (g := .tp (.cons (.nm 3) (.cons (.nm 4) .nil))) (b := sSeq (sFor (iSeq (mVar 1)) (.tp (.cons (.nm 5) (.cons (.nm 6) .nil))) bProd) (sNil)) (ds := (l.map trm).map .p) (env := eProd st.length (.tuple (l.map trm)) (.tuple (m.map trm)) none none none none) (st := st ++ [uL []]) (st1 := st ++ [uL []])
    (fun i env z => ∃ a b c d, env = eProd st.length (.tuple (l.map trm)) (.tuple (m.map trm)) a b c d ∧ z = st ++ [uL (mulU (l.take i) m)]) (iSeq_tup rfl) ⟨none, none, none, none, rfl, rfl⟩ (fun _ _ _ _ => rfl) fun i d env z hx ⟨a, b, c2, d2, e1, e2⟩ => by
      rw [List.map_map, List.getElem?_map] at hx
      cases hi : l[i]? with
      | none => rw [hi] at hx; cases hx
      | some s =>
        rw [hi] at hx
        cases hx
        have hil : i < l.length := (List.getElem?_eq_some_iff.mp hi).1
        have hsm : s ∈ l := List.mem_of_getElem? hi
        have htk : mulU (l.take (i + 1)) m = mulU (l.take i) m ++ shU s m := by
          rw [List.take_add_one, hi]
          unfold mulU
          rw [List.flatMap_append]
          simp
        subst e1 e2
        have hl2 : (mulU (l.take i) m).length + m.length ≤ 1000000 := by
          rw [mulU_len, List.length_take]
          have : min i l.length * m.length ≤ l.length * m.length := Nat.mul_le_mul_right _ (by omega)
          omega
        obtain ⟨o5, o6, g⟩ := l_prod1 (x := .tuple (l.map trm)) (st := st) (o5 := c2) (o6 := d2) (hs s hsm) ht hn hl2 hc hc'
        rw [← htk] at g
        refine ⟨eProd st.length (.tuple (l.map trm)) (.tuple (m.map trm)) (some (.p (tupI s.1))) (some (.p s.2.1)) c2 d2, by simp [eProd, trm], eProd st.length (.tuple (l.map trm)) (.tuple (m.map trm)) (some (.p (tupI s.1))) (some (.p s.2.1)) o5 o6, st ++ [uL (mulU (l.take (i + 1)) m)], .inl ?_, _, _, _, _, rfl, rfl⟩
        rw [ev_sSeq, g]
        rfl
  refine ⟨a, b, c2, d2, ?_⟩
  rw [h3]
  simp
theorem g_lproduct {a b : PyData} {p q : Po.P} {n w w' T T' : Nat} (ha : Pg n w T a p) (hb : Pg n w' T' b q) (hn : 1 ≤ n) (hn2 : n ≤ 1000) (hw : w + w' + 20 ≤ 990) (hT : T * T' ≤ 900000) (hT' : T' ≤ 90000) (st : Sto) : ∃ r, φ__law_product [.p a, .p b] st = .ok (.p r) st ∧ Pg n (w + w' + 20) (T * T') r (p * q) := by
  obtain ⟨l, hl, rfl, hlT, rfl⟩ := ha
  obtain ⟨m, hm, rfl, hmT, rfl⟩ := hb
  have hll : l.length * m.length ≤ T * T' := Nat.mul_le_mul hlT hmT
  obtain ⟨o3, o4, o5, o6, h1⟩ := l_prod (st := st) hl.ok hm.ok hn2 (by omega) (by omega) (pow_lt (by omega)) (pow_lt (by omega))
  have ok : ∀ t ∈ mulU l m, Okt n (2 ^ (4 * (w + w'))) (w + w') t := fun t ht => by
    obtain ⟨s, hs, h⟩ := List.mem_flatMap.mp ht
    have := shU_ok (hl.ok s hs) (fun u hu => hm.ok u hu) t h
    rw [← Nat.pow_add] at this
    exact this.mono (Nat.pow_le_pow_right (by decide) (by omega))
  obtain ⟨r, g1, g2⟩ := g_gather (st := st ++ [uL (mulU l m)]) (d := .loc st.length) (T := T * T') (.inr (.inr ⟨_, rfl, get_last⟩)) hn ok (by rw [mulU_len]; exact hll) (by omega) hw
  refine ⟨r, ?_, by rw [mulU_mth (fun t ht => (hl.ok t ht).len) fun t ht => (hm.ok t ht).len] at g2; exact g2⟩
  have hz : uL [] = .lst [] := rfl
  unfold bProd eProd at h1
  rw [hz] at h1
  simp [φ__law_product, N__law_product, m__law_product, h1, g1]
end Q
set_option Elab.async false
set_option linter.all false
set_option maxRecDepth 100000
set_option maxHeartbeats 4000000
set_option exponentiation.threshold 20000
namespace Q
open PySem PySem.Spec Fw
open L2 (Key)
/-! ## kinds of data -/
theorem opn_cases {x : PyData} {xs : List PyData} (h : opn x = some xs) : x = .tuple xs ∨ x = .dict [(.tuple xs, .none)] := by
  unfold opn at h
  split at h
  · cases h; exact .inl rfl
  · cases h; exact .inr rfl
  · cases h
theorem isi_tup {x : PyData} {xs : List PyData} (h : opn x = some xs) : isiP .tup x = some (.bool true) := by
  rcases opn_cases h with rfl | rfl <;> rfl
theorem isi_tupB {x : PyData} {xs : List PyData} (h : opn x = some xs) : isiP .bool x = some (.bool false) := by
  rcases opn_cases h with rfl | rfl <;> rfl
theorem isN_tup {x : PyData} {xs : List PyData} (h : opn x = some xs) : isP false x .none = some (.bool false) := by
  rcases opn_cases h with rfl | rfl <;> rfl
@[simp] theorem isi_tT {xs : List PyData} : isiP .tup (.tuple xs) = some (.bool true) := rfl
@[simp] theorem isi_ti {i : Int} : isiP .tup (.int i) = some (.bool false) := rfl
@[simp] theorem isi_tn : isiP .tup .none = some (.bool false) := rfl
@[simp] theorem isi_tl {xs : List PyData} : isiP .tup (.list xs) = some (.bool false) := rfl
@[simp] theorem isi_bi {i : Int} : isiP .bool (.int i) = some (.bool false) := rfl
@[simp] theorem isi_si {i : Int} : isiP .str (.int i) = some (.bool false) := rfl
@[simp] theorem isi_ii {i : Int} : isiP .int (.int i) = some (.bool true) := rfl
@[simp] theorem isi_bb {b : Bool} : isiP .bool (.bool b) = some (.bool true) := rfl
@[simp] theorem isi_bT {xs : List PyData} : isiP .bool (.tuple xs) = some (.bool false) := rfl
@[simp] theorem isN_i {i : Int} : isP false (.int i) .none = some (.bool false) := rfl
@[simp] theorem isN_b {b : Bool} : isP false (.bool b) .none = some (.bool false) := rfl
@[simp] theorem isN_n : isP false .none .none = some (.bool true) := rfl
/-! ## the law's same -/
inductive Sm : Nat → PyData → PyData → Prop
  | int (n : Nat) (i : Int) : Sm (n + 1) (.int i) (.int i)
  | bool (n : Nat) (b : Bool) : Sm (n + 1) (.bool b) (.bool b)
  | tup {n : Nat} {a d : PyData} {xs ys : List PyData} : opn a = some xs → opn d = some ys → xs.length = ys.length → ys.length ≤ 1000000 → (∀ (i : Nat) (x y : PyData), xs[i]? = some x → ys[i]? = some y → Sm n x y) → Sm (n + 1) a d
theorem all_true {α : Type} (xs : List α) : ((xs.map fun _ => true).all id) = true := by
  rw [List.all_eq_true]
  intro b hb
  obtain ⟨_, _, rfl⟩ := List.mem_map.mp hb
  rfl
theorem e_same {n : Nat} {a d : PyData} (h : Sm n a d) : ∀ st, φ__law_same n [.p a, .p d] st = .ok (.p (.bool true)) st := by
  induction h with
  | int n i =>
    intro st
    simp [φ__law_same, N__law_same, m__law_same]
  | bool n b =>
    intro st
    simp [φ__law_same, N__law_same, m__law_same]
  | @tup n a d xs ys h1 h2 h3 h4 h5 ih =>
    intro st
    have l1 := fun st => lenG_opn (st := st) h1
    have l2 := fun st => lenG_opn (st := st) h2
    have hc := comp_all (mi := iArgs (aCons (mL (aCons (mVar 1) (aNil)) (gL1 lenG)) (aNil)) rng1) (own := [2]) (g := .nm 2) (m := mCall (aCons (m2 (mVar 0) (mVar 2) ixG) (aCons (m2 (mVar 1) (mVar 2) ixG) (aNil))) (sized 2 (φ__law_same n))) (env := [some (.p a), some (.p d), none]) (st := st) (st0 := st) (xs := List.range ys.length) (e := fun (j : Nat) => .int j) (h := fun _ => .bool true)
      (src_rng (n := ys.length) (by simp [l2]) h4) (by rw [List.length_range]; exact h4) fun j hj => by
        have hj' := List.mem_range.mp hj
        have i1 := fun st => ixG_opn (st := st) (k := (j : Int)) h1
        have i2 := fun st => ixG_opn (st := st) (k := (j : Int)) h2
        rw [at_nat (show j < xs.length by omega)] at i1
        rw [at_nat hj'] at i2
        have hs := ih j xs[j] ys[j] (by simp [show j < xs.length by omega]) (by simp [hj'])
        exact turn_all (env1 := [some (.p a), some (.p d), some (.p (.int j))]) (by simp [wipeE]) (by simp [i1, i2, hs])
    have ha := allP_b ((List.range ys.length).map fun _ => true)
    rw [List.map_map, all_true] at ha
    have hc' : mComp false (iArgs (aCons (mL (aCons (mVar 1) (aNil)) (gL1 lenG)) (aNil)) rng1) (.nm 2) [2] (tTr) (mCall (aCons (m2 (mVar 0) (mVar 2) ixG) (aCons (m2 (mVar 1) (mVar 2) ixG) (aNil))) (sized 2 (φ__law_same n))) [some (.p a), some (.p d), none] st = .ok (.p (.list ((List.range ys.length).map (PyData.bool ∘ fun _ => true)))) st := hc
    have t1 := isi_tup h1
    have t2 := isi_tup h2
    have t3 := isi_tupB h2
    have t4 := isN_tup h2
    generalize (List.range ys.length).map (PyData.bool ∘ fun _ => true) = bs at *
    simp [φ__law_same, N__law_same, m__law_same, t1, t2, t3, t4, l1, l2, h3, hc', ha]
end Q
set_option Elab.async false
set_option linter.all false
set_option maxRecDepth 100000
set_option maxHeartbeats 4000000
set_option exponentiation.threshold 20000
namespace Q
open PySem PySem.Spec Fw
open L2 (Key)
/-! ## the same polynomial: the same for the law -/
theorem Sm.tupI {n : Nat} (k : List Int) (h : k.length ≤ 1000000) : Sm (n + 2) (Fw.tupI k) (Fw.tupI k) :=
  .tup rfl rfl rfl (by simpa using h) fun i x y h1 h2 => by
    rw [List.getElem?_map] at h1 h2
    cases hi : k[i]? with
    | none => rw [hi] at h1; cases h1
    | some j => rw [hi] at h1 h2; cases h1; cases h2; exact .int _ _
theorem Sm.rat {n : Nat} {c d : PyData} {q : Rat} (h : IsR c q) (h' : IsR d q) : Sm (n + 2) c d :=
  .tup h h' rfl (by simp) fun i x y h1 h2 => by
    match i with
    | 0 => cases h1; cases h2; exact .int _ _
    | 1 => cases h1; cases h2; exact .int _ _
    | i + 2 => cases h1
theorem Sm.poly {n w T w' T' m : Nat} {a b : PyData} {p : Po.P} (ha : Pg n w T a p) (hb : Pg n w' T' b p) (hn : n ≤ 1000000) (hT : T' ≤ 1000000) : Sm (m + 4) a b := by
  obtain ⟨l, hl, rfl, hlT, h1⟩ := ha
  obtain ⟨k, hk, rfl, hkT, h2⟩ := hb
  have e := hl.uniq hk (h1.trans h2.symm)
  have elen : l.length = k.length := by have := congrArg List.length e; simpa using this
  refine .tup rfl rfl (by simpa using elen) (by simp; omega) fun i x y hx hy => ?_
  rw [List.getElem?_map] at hx hy
  cases hi : l[i]? with
  | none => rw [hi] at hx; cases hx
  | some t =>
    cases hj : k[i]? with
    | none => rw [hj] at hy; cases hy
    | some u =>
      rw [hi] at hx
      rw [hj] at hy
      cases hx
      cases hy
      have ee : (t.1, t.2.2) = (u.1, u.2.2) := by
        have := congrArg (fun z => z[i]?) e
        simp only [List.getElem?_map, hi, hj, Option.map_some] at this
        exact Option.some.inj this
      have e1 : t.1 = u.1 := (Prod.mk.inj ee).1
      have e2 : t.2.2 = u.2.2 := (Prod.mk.inj ee).2
      refine .tup (xs := [Fw.tupI t.1, t.2.1]) (ys := [Fw.tupI u.1, u.2.1]) rfl rfl rfl (by simp) fun i x y h1 h2 => ?_
      match i with
      | 0 =>
        cases h1; cases h2; rw [e1]
        exact Sm.tupI _ (by rw [(hk.ok u (List.mem_of_getElem? hj)).len]; exact hn)
      | 1 =>
        cases h1; cases h2
        have i1 := (hl.ok t (List.mem_of_getElem? hi)).isr
        rw [e2] at i1
        exact Sm.rat i1 (hk.ok u (List.mem_of_getElem? hj)).isr
      | i + 2 => cases h1
/-! ## what the program asks of data -/
theorem e_isint_i (i : Int) (st : Sto) : φ_is_integer [.p (.int i)] st = .ok (.p (.bool true)) st := by
  simp [φ_is_integer, N_is_integer, m_is_integer]
theorem e_ismono {k : List Int} {n : Nat} (hl : k.length = n) (hn : n ≤ 1000) (h0 : ∀ i ∈ k, 0 ≤ i) (st : Sto) : φ_is_monomial [.p (tupI k), .p (.int n)] st = .ok (.p (.bool true)) st := by
  have hc := comp_all (mi := iSeq (mVar 0)) (own := [2]) (g := .nm 2) (m := mAnd (mCall (aCons (mVar 2) (aNil)) (sized 1 φ_is_integer)) (m2 (mVar 2) (mC (.int 0)) (lift2 3 geP))) (env := [some (.p (tupI k)), some (.p (.int n)), none]) (st := st) (st0 := st) (xs := k) (e := fun i => .int i) (h := fun _ => .bool true)
    (by rw [iSeq_tup (xs := k.map .int) rfl, List.map_map]; rfl) (by omega) fun i hi => by
      have := h0 i hi
      have hi := e_isint_i i st
      exact turn_all (env1 := [some (.p (tupI k)), some (.p (.int n)), some (.p (.int i))]) (by simp [wipeE]) (by simp [hi, this])
  have ha := allP_b (k.map fun _ => true)
  rw [List.map_map, all_true] at ha
  have hc' : mCompV false 0 (.nm 2) [2] (tTr) (mAnd (mCall (aCons (mVar 2) (aNil)) (sized 1 φ_is_integer)) (m2 (mVar 2) (mC (.int 0)) (lift2 3 geP))) [some (.p (tupI k)), some (.p (.int n)), none] st = .ok (.p (.list (k.map (PyData.bool ∘ fun _ => true)))) st := by
    rw [compV_p rfl]
    exact hc
  have hl2 : lenG (.p (tupI k)) st = some (.p (.int n), st) := by unfold tupI; rw [ev_lenT, List.length_map, hl]
  have ht : isiP .tup (tupI k) = some (.bool true) := rfl
  generalize k.map (PyData.bool ∘ fun _ => true) = bs at *
  simp [φ_is_monomial, N_is_monomial, m_is_monomial, ht, hl2, hc', ha]
theorem e_isratio {x : PyData} {q : Rat} (h : IsR x q) (hd : q.den < 2 ^ 9000) (st : Sto) : φ_is_ratio [.p x] st = .ok (.p (.bool true)) st := by
  have hc := comp_all (mi := iSeq (mVar 0)) (own := [1]) (g := .nm 1) (m := mCall (aCons (mVar 1) (aNil)) (sized 1 φ_is_integer)) (env := [some (.p x), none]) (st := st) (st0 := st) (xs := [q.num, (q.den : Int)]) (e := fun i => .int i) (h := fun _ => .bool true)
    (iSeq_opn rfl h) (by simp) fun i hi => by
      have hi := e_isint_i i st
      exact turn_all (env1 := [some (.p x), some (.p (.int i))]) (by simp [wipeE]) (by simp [hi])
  have hc' : mCompV false 0 (.nm 1) [1] (tTr) (mCall (aCons (mVar 1) (aNil)) (sized 1 φ_is_integer)) [some (.p x), none] st = .ok (.p (.list [.bool true, .bool true])) st := by
    rw [compV_p rfl]
    exact hc
  have ha := allP_b [true, true]
  have ha' : allP (.list [.bool true, .bool true]) = some (.bool true) := ha
  have l1 := fun st => lenG_opn (st := st) h
  have i1 := fun k st => ixG_opn (st := st) (k := k) h
  have ht := isi_tup h
  have hdv := e_divisor q.num q.den st (fuel_9000 (by rw [Int.natAbs_natCast]; exact hd))
  have hg : (Int.gcd q.num q.den) = 1 := q.reduced
  rw [hg] at hdv
  have dp : (0 : Int) < (q.den : Int) := by have := q.den_pos; omega
  clear hd hc ha
  simp [φ_is_ratio, N_is_ratio, m_is_ratio, ht, l1, hc', ha', i1, hdv, dp, q.den_pos]
theorem nmA_I : ∀ k : List Int, nmA (k.map .int) = k.map .int
  | [] => rfl
  | i :: k => by
    show PyData.int i :: nmA (k.map .int) = _
    rw [nmA_I k]
    rfl
theorem nm_I (k : List Int) : nm (tupI k) = tupI k := by
  show PyData.tuple (nmA (k.map .int)) = _
  rw [nmA_I]
  rfl
theorem gtP_I {a b : List Int} : gtP (tupI a) (tupI b) = some (.bool (ltI b a)) := by
  unfold gtP
  rw [nm_I, nm_I]
  have hd : okD (tupI a) (tupI b) = true := decide_eq_true (Nat.le_trans (Nat.min_le_left _ _) (Nat.le_trans (depth_T a) (by decide)))
  have hc : cmpOk (tupI a) (tupI b) = true := by
    unfold cmpOk
    rw [alike_T, hd]
    rfl
  unfold gtQ
  rw [if_pos hc, dl_T]
/-- each two neighbours -/
theorem pair_step {α : Type} {R : α → α → Bool} : ∀ {l : List α}, (l.Pairwise fun a b => R a b = true) → ∀ q ∈ l.zip (l.drop 1), R q.1 q.2 = true
  | [], _, q, h => by simp at h
  | [a], _, q, h => by simp at h
  | a :: b :: l, hp, q, h => by
    rw [List.drop_succ_cons, List.drop_zero, List.zip_cons_cons] at h
    rcases List.mem_cons.mp h with e | h
    · subst e
      exact List.rel_of_pairwise_cons hp List.mem_cons_self
    · exact pair_step (R := R) (l := b :: l) (List.Pairwise.of_cons hp) q (by simpa using h)
theorem slP_T {xs : List PyData} {lo hi : Option Int} : slP (.tuple xs) lo hi = some (.tuple (cutL xs lo hi)) := rfl
theorem e_ispoly {d : PyData} {p : Po.P} {n w T : Nat} (h : Pg n w T d p) (hn : 1 ≤ n) (hn2 : n ≤ 1000) (hw : w ≤ 990) (hT : T ≤ 1000000) (st : Sto) : φ_is_poly [.p d, .p (.int n)] st = .ok (.p (.bool true)) st := by
  obtain ⟨l, hl, rfl, hlT, rfl⟩ := h
  have hb := pow_lt hw
  obtain ⟨env', s', h3, o, e1, e2⟩ := for_inv (mi := iSeq (mVar 0)) (src := .fix ((l.map trm).map .p)) (g := .nm 2) (b := sSeq (sIf (tOrr (tNt (tV (m1 (mVar 2) (lift1 3 (isiP .tup))))) (tOrr (tB (m2 (mL (aCons (mVar 2) (aNil)) (gL1 lenG)) (mC (.int 2)) (lift2 3 neP))) (tNt (tV (mCall (aCons (m2 (mVar 2) (mC (.int 0)) ixG) (aCons (mVar 1) (aNil))) (sized 2 φ_is_monomial)))))) (sSeq (sRet (mC (.bool false)))
    (sNil)) (sNil))
    (sSeq (sIf (tOrr (tNt (tV (mCall (aCons (m2 (mVar 2) (mC (.int 1)) ixG) (aNil)) (sized 1 φ_is_ratio)))) (tB (m2 (m2 (mVar 2) (mC (.int 1)) ixG) (mC (mkD [0, 1])) (lift2 3 eqP)))) (sSeq (sRet (mC (.bool false)))
    (sNil)) (sNil))
    (sNil))) (ds := (l.map trm).map .p) (env := [some (.p (.tuple (l.map trm))), some (.p (.int n)), none, none, none]) (st := st) (st1 := st)
    (fun i env s => ∃ o, env = [some (.p (.tuple (l.map trm))), some (.p (.int n)), o, none, none] ∧ s = st) (iSeq_tup rfl) ⟨none, rfl, rfl⟩ (fun _ _ _ _ => rfl) fun i x env s hx ⟨o, e1, e2⟩ => by
      rw [List.map_map, List.getElem?_map] at hx
      cases hi : l[i]? with
      | none => rw [hi] at hx; cases hx
      | some t =>
        rw [hi] at hx
        cases hx
        have htm : t ∈ l := List.mem_of_getElem? hi
        have o := hl.ok t htm
        have m1 := e_ismono o.len hn2 o.nn s
        have m2 := e_isratio o.isr (Nat.lt_of_lt_of_le (o.sz.nb hb.1 hb.2).2 (Nat.pow_le_pow_right (by decide) (by decide))) s
        have m3 := eqP_zero o.isr
        have m4 := hl.nz t htm
        subst e1 e2
        clear hb
        refine ⟨[some (.p (.tuple (l.map trm))), some (.p (.int n)), some (.p (trm t)), none, none], by simp, [some (.p (.tuple (l.map trm))), some (.p (.int n)), some (.p (trm t)), none, none], s, .inl ?_, _, rfl, rfl⟩
        unfold trm
        simp [m1, m2, m3, m4]
  rw [e1, e2] at h3
  have hcut : cutL (l.map trm) (some 1) none = (l.map trm).drop 1 := by
    by_cases z : 1 ≤ (l.map trm).length
    · exact cut_lo (k := 1) z
    · have : l.map trm = [] := List.length_eq_zero_iff.mp (by omega)
      rw [this]
      rfl
  have hc := comp_all (mi := iArgs (aCons (mVar 0) (aCons (mSl (mVar 0) (oSome (mC (.int 1))) (oNone)) (aNil))) zip2) (own := [3, 4]) (g := .tp (.cons (.nm 3) (.cons (.nm 4) .nil))) (m := m2 (m2 (mVar 3) (mC (.int 0)) ixG) (m2 (mVar 4) (mC (.int 0)) ixG) (lift2 3 gtP)) (env := [some (.p (.tuple (l.map trm))), some (.p (.int n)), o, none, none]) (st := st) (st0 := st) (xs := l.zip (l.drop 1)) (e := fun q => .tuple [trm q.1, trm q.2]) (h := fun _ => .bool true)
    (by
      rw [src_zip (xs := l.map trm) (ys := (l.map trm).drop 1) (st1 := st) (by simp [slP_T, hcut])]
      rw [← List.map_drop, List.zip_map, List.map_map]
      rfl) (by rw [List.length_zip]; omega) fun q hq => by
      have hg := pair_step (R := fun a b : U => ltI b.1 a.1) (l := l) (by have := hl.desc; rw [List.pairwise_map] at this; exact this) q hq
      have hg' : gtP (tupI q.1.1) (tupI q.2.1) = some (.bool true) := by rw [gtP_I]; exact congrArg (fun b => some (PyData.bool b)) hg
      exact turn_all (env1 := [some (.p (.tuple (l.map trm))), some (.p (.int n)), o, some (.p (trm q.1)), some (.p (trm q.2))]) (by simp [wipeE]) (by unfold trm; simp [hg'])
  have ha := allP_b ((l.zip (l.drop 1)).map fun _ => true)
  rw [List.map_map, all_true] at ha
  have hc' : mComp false (iArgs (aCons (mVar 0) (aCons (mSl (mVar 0) (oSome (mC (.int 1))) (oNone)) (aNil))) zip2) (.tp (.cons (.nm 3) (.cons (.nm 4) .nil))) [3, 4] (tTr) (m2 (m2 (mVar 3) (mC (.int 0)) ixG) (m2 (mVar 4) (mC (.int 0)) ixG) (lift2 3 gtP)) [some (.p (.tuple (l.map trm))), some (.p (.int n)), o, none, none] st = .ok (.p (.list ((l.zip (l.drop 1)).map (PyData.bool ∘ fun _ => true)))) st := hc
  generalize (l.zip (l.drop 1)).map (PyData.bool ∘ fun _ => true) = bs at *
  clear hb hc hcut
  simp [φ_is_poly, N_is_poly, m_is_poly, h3, hc', ha]
end Q
set_option Elab.async false
set_option linter.all false
set_option maxRecDepth 100000
set_option maxHeartbeats 4000000
set_option exponentiation.threshold 20000
namespace Q
open PySem PySem.Spec Fw
open L2 (Key)
/-! ## two lists, item by item -/
inductive F2 {α β : Type} (R : α → β → Prop) : List α → List β → Prop
  | nil : F2 R [] []
  | cons {x : α} {y : β} {xs : List α} {ys : List β} : R x y → F2 R xs ys → F2 R (x :: xs) (y :: ys)
namespace F2
variable {α β γ : Type} {R S : α → β → Prop}
theorem length : ∀ {xs : List α} {ys : List β}, F2 R xs ys → xs.length = ys.length
  | _, _, .nil => rfl
  | _, _, .cons _ b => by rw [List.length_cons, List.length_cons, length b]
theorem get : ∀ {xs : List α} {ys : List β} {i : Nat} {x : α}, F2 R xs ys → xs[i]? = some x → ∃ y, ys[i]? = some y ∧ R x y
  | _, _, _, _, .nil, h => by simp at h
  | _, _, 0, _, .cons a b, h => by simp at h; subst h; exact ⟨_, rfl, a⟩
  | _, _, i + 1, _, .cons a b, h => by
    rw [List.getElem?_cons_succ] at h
    obtain ⟨y, h1, h2⟩ := get b h
    exact ⟨y, by rw [List.getElem?_cons_succ]; exact h1, h2⟩
theorem append : ∀ {xs xs' : List α} {ys ys' : List β}, F2 R xs ys → F2 R xs' ys' → F2 R (xs ++ xs') (ys ++ ys')
  | _, _, _, _, .nil, h => h
  | _, _, _, _, .cons a b, h => .cons a (append b h)
theorem take : ∀ {xs : List α} {ys : List β} (n : Nat), F2 R xs ys → F2 R (xs.take n) (ys.take n)
  | _, _, 0, _ => by rw [List.take_zero, List.take_zero]; exact .nil
  | _, _, n + 1, .nil => by rw [List.take_nil, List.take_nil]; exact .nil
  | _, _, n + 1, .cons a b => by rw [List.take_succ_cons, List.take_succ_cons]; exact .cons a (take n b)
theorem drop : ∀ {xs : List α} {ys : List β} (n : Nat), F2 R xs ys → F2 R (xs.drop n) (ys.drop n)
  | _, _, 0, h => by rw [List.drop_zero, List.drop_zero]; exact h
  | _, _, n + 1, .nil => by rw [List.drop_nil, List.drop_nil]; exact .nil
  | _, _, n + 1, .cons a b => by rw [List.drop_succ_cons, List.drop_succ_cons]; exact drop n b
theorem imp (h : ∀ x y, R x y → S x y) : ∀ {xs : List α} {ys : List β}, F2 R xs ys → F2 S xs ys
  | _, _, .nil => .nil
  | _, _, .cons a b => .cons (h _ _ a) (imp h b)
theorem map {δ : Type} {R : α → β → Prop} {S : γ → δ → Prop} {f : α → γ} {g : β → δ} (h : ∀ x y, R x y → S (f x) (g y)) : ∀ {xs : List α} {ys : List β}, F2 R xs ys → F2 S (xs.map f) (ys.map g)
  | _, _, .nil => .nil
  | _, _, .cons a b => .cons (h _ _ a) (map h b)
end F2
/-! ## () or not -/
theorem nmA_nil {xs : List PyData} : nmA xs = [] ↔ xs = [] := by
  cases xs with
  | nil => exact ⟨fun _ => rfl, fun _ => rfl⟩
  | cons x xs => exact ⟨fun h => (by cases h), fun h => (by cases h)⟩
theorem okD_nil (x : PyData) : okD x (.tuple []) = true := decide_eq_true (Nat.le_trans (Nat.min_le_right _ _) (by decide))
theorem eqv_nil (xs : List PyData) : PyData.eqv (.tuple xs) (.tuple []) = decide (xs = []) := by
  cases xs with
  | nil => rfl
  | cons x xs => rfl
@[simp] theorem eqP_nil {xs : List PyData} : eqP (.tuple xs) (.tuple []) = some (.bool (decide (xs = []))) := by
  show eqQ (.tuple (nmA xs)) (.tuple []) = _
  unfold eqQ
  rw [if_pos (okD_nil _), eqv_nil]
  congr 2
  exact decide_eq_decide.mpr nmA_nil
@[simp] theorem neP_nil {xs : List PyData} : neP (.tuple xs) (.tuple []) = some (.bool (decide (xs ≠ []))) := by
  show neQ (.tuple (nmA xs)) (.tuple []) = _
  unfold neQ
  rw [if_pos (okD_nil _), eqv_nil]
  by_cases z : xs = []
  · subst z; rfl
  · have : nmA xs ≠ [] := fun h => z (nmA_nil.mp h)
    simp [z, this]
/-- a polynomial's tuple is empty just where it is 0 -/
theorem Pg.tup {n w T : Nat} {d : PyData} {p : Po.P} (h : Pg n w T d p) : ∃ xs, d = .tuple xs ∧ xs.length ≤ T ∧ (xs = [] ↔ p = 0) := by
  obtain ⟨l, hl, rfl, hlT, rfl⟩ := h
  refine ⟨_, rfl, by simpa using hlT, ?_⟩
  have z := (nil_poly (c := n) (w := 0))
  obtain ⟨m, hm, e, hm0, h0⟩ := z
  have hmn : m = [] := List.length_eq_zero_iff.mp (by omega)
  subst hmn
  constructor
  · intro h
    have : l = [] := by simpa using h
    subst this
    exact h0
  · intro h
    have := hl.uniq hm (h.trans h0.symm)
    simp at this
    rw [this]
    rfl
/-! ## tables -/
def RowD (n w T : Nat) (d : PyData) (r : List Po.P) : Prop := ∃ xs, d = .tuple xs ∧ F2 (Pg n w T) xs r
def TabD (n w T : Nat) (rs : List PyData) (M : List (List Po.P)) : Prop := F2 (RowD n w T) rs M
theorem e_all_ispoly {n w T : Nat} {xs : List PyData} {r : List Po.P} (h : F2 (Pg n w T) xs r) (hn : 1 ≤ n) (hn2 : n ≤ 1000) (hw : w ≤ 990) (hT : T ≤ 1000000) (hl : xs.length ≤ 1000) {a b c : Option D} (st : Sto) :
    mCompV false 2 (.nm 3) [3] (tTr) (mCall (aCons (mVar 3) (aCons (mVar 1) (aNil))) (sized 2 φ_is_poly)) [a, some (.p (.int n)), some (.p (.tuple xs)), c] st = .ok (.p (.list (xs.map (PyData.bool ∘ fun _ => true)))) st := by
  rw [compV_p rfl]
  exact comp_all (mi := iSeq (mVar 2)) (own := [3]) (g := .nm 3) (m := mCall (aCons (mVar 3) (aCons (mVar 1) (aNil))) (sized 2 φ_is_poly)) (env := [a, some (.p (.int n)), some (.p (.tuple xs)), c]) (st := st) (st0 := st) (xs := xs) (e := fun x => x) (h := fun _ => .bool true)
    (iSeq_tup rfl) (by omega) fun x hx => by
      obtain ⟨i, hi, rfl⟩ := List.getElem_of_mem hx
      obtain ⟨p, _, hp⟩ := h.get (List.getElem?_eq_getElem hi)
      have := e_ispoly hp hn hn2 hw hT st
      exact turn_all (env1 := [a, some (.p (.int n)), some (.p (.tuple xs)), some (.p xs[i])]) (by simp [wipeE]) (by simp [this])
theorem e_check_table {n w T c : Nat} {rs : List PyData} {M : List (List Po.P)} (h : TabD n w T rs M) (hM : M ≠ []) (hM5 : M.length ≤ 5) (hr : ∀ r ∈ M, r.length = c) (hc : 1 ≤ c) (hc5 : c ≤ 5) (hn : 1 ≤ n) (hn2 : n ≤ 1000) (hw : w ≤ 990) (hT : T ≤ 1000000) (st : Sto) : φ_check_table [.p (.tuple rs), .p (.int n)] st = .ok (.p .none) st := by
  cases h with
  | nil => exact absurd rfl hM
  | @cons d r ds M' hd ht =>
    obtain ⟨xs, rfl, hxs⟩ := hd
    have hx0 : xs.length = c := by rw [hxs.length]; exact hr r List.mem_cons_self
    have hxne : xs ≠ [] := fun e => by rw [e] at hx0; simp at hx0; omega
    have hlen : ds.length = M'.length := ht.length
    rw [List.length_cons] at hM5
    obtain ⟨env', s', h3, o, e1, e2⟩ := for_inv (mi := iSeq (mVar 0)) (src := .fix ((PyData.tuple xs :: ds).map .p)) (g := .nm 2) (b := sSeq (sIf (tOrr (tNt (tV (m1 (mVar 2) (lift1 3 (isiP .tup))))) (tOrr (tB (m2 (mL (aCons (mVar 2) (aNil)) (gL1 lenG)) (mL (aCons (m2 (mVar 0) (mC (.int 0)) ixG) (aNil)) (gL1 lenG)) (lift2 3 neP))) (tNt (tV (mL (aCons (mCompV false 2 (.nm 3) [3] (tTr) (mCall (aCons (mVar 3) (aCons (mVar 1) (aNil))) (sized 2 φ_is_poly))) (aNil)) (gL1 (lift1 1 allP))))))) (sSeq (sRaise 1)
    (sNil)) (sNil))
    (sNil)) (ds := (PyData.tuple xs :: ds).map .p) (env := [some (.p (.tuple (.tuple xs :: ds))), some (.p (.int n)), none, none]) (st := st) (st1 := st)
      (fun i env s => ∃ o, env = [some (.p (.tuple (.tuple xs :: ds))), some (.p (.int n)), o, none] ∧ s = st) (iSeq_tup rfl) ⟨none, rfl, rfl⟩ (fun _ _ _ _ => rfl) fun i x env s hx ⟨o, e1, e2⟩ => by
        rw [List.getElem?_map] at hx
        cases hi : (PyData.tuple xs :: ds)[i]? with
        | none => rw [hi] at hx; cases hx
        | some y =>
          rw [hi] at hx
          cases hx
          obtain ⟨q, hq1, ys, rfl, hq3⟩ := F2.get (F2.cons (R := RowD n w T) ⟨xs, rfl, hxs⟩ ht) hi
          have hyl : ys.length = xs.length := by rw [hx0, hq3.length]; exact hr q (List.mem_of_getElem? hq1)
          have ha := allP_b (ys.map fun _ => true)
          rw [List.map_map, all_true] at ha
          have hcomp := e_all_ispoly hq3 hn hn2 hw hT (by omega) (a := some (.p (.tuple (.tuple xs :: ds)))) (b := none) (c := none) s
          subst e1 e2
          generalize ys.map (PyData.bool ∘ fun _ => true) = bs at *
          refine ⟨[some (.p (.tuple (.tuple xs :: ds))), some (.p (.int n)), some (.p (.tuple ys)), none], by simp, [some (.p (.tuple (.tuple xs :: ds))), some (.p (.int n)), some (.p (.tuple ys)), none], s, .inl ?_, _, rfl, rfl⟩
          simp [hyl, hcomp, ha]
    rw [e1, e2] at h3
    have h5 : ¬ (5 : Int) < (ds.length : Int) + 1 := by omega
    have h6 : ¬ (5 : Int) < (xs.length : Int) := by omega
    simp [φ_check_table, N_check_table, m_check_table, hxne, h5, h6, h3]
end Q
set_option Elab.async false
set_option linter.all false
set_option maxRecDepth 100000
set_option maxHeartbeats 4000000
set_option exponentiation.threshold 20000
namespace Q
open PySem PySem.Spec Fw
open L2 (Key)
/-! ## determinants, by the first row -/
def del {α : Type} (j : Nat) (r : List α) : List α := r.take j ++ r.drop (j + 1)
def sumN : Nat → (Nat → Po.P) → Po.P
  | 0, _ => 0
  | n + 1, f => sumN n f + f n
def sg (j : Nat) (x : Po.P) : Po.P := if j % 2 = 0 then x else -x
def dtn : Nat → List (List Po.P) → Po.P
  | 0, _ => 1
  | _ + 1, [] => 1
  | n + 1, r :: M => sumN r.length fun j => sg j (r.getD j 0 * dtn n (M.map (del j)))
def dW (w m : Nat) : Nat → Nat
  | 0 => 1
  | s + 1 => w + dW w m s + 20 + 21 * m
def dT (T m : Nat) : Nat → Nat
  | 0 => 1
  | s + 1 => m * (T * dT T m s)
theorem del_len {α : Type} {j : Nat} {r : List α} (h : j < r.length) : (del j r).length + 1 = r.length := by
  unfold del
  rw [List.length_append, List.length_take, List.length_drop]
  omega
theorem F2.del {α β : Type} {R : α → β → Prop} {xs : List α} {ys : List β} (h : F2 R xs ys) (j : Nat) : F2 R (Q.del j xs) (Q.del j ys) := (h.take j).append (h.drop (j + 1))
theorem mod2 (j : Nat) : modP (.int (j : Int)) (.int 2) = some (.int ((j % 2 : Nat) : Int)) := by
  rw [ev_mod (by decide)]
  exact congrArg (fun i => some (PyData.int i)) (fmod_nat j 2)
/-- a row without its place j -/
theorem e_delrow {ms : Env' → M D} {env : Env'} {st : Sto} {ys : List PyData} {j r p : Nat} (hr : env[r]? = some (some (.p (.tuple ys)))) (hp : env[p]? = some (some (.p (.int j)))) (hj : j < ys.length) (hl : ys.length ≤ 1000) :
    m2 (mSl (mVar r) (oNone) (oSome (mVar p))) (mSl (mVar r) (oSome (m2 (mVar p) (mC (.int 1)) (lift2 1 addP))) (oNone)) (lift2 1 addP) env st = .ok (.p (.tuple (del j ys))) st := by
  have c1 := cut_hi (xs := ys) (k := j) (by omega)
  have c2 := cut_lo (xs := ys) (k := j + 1) (by omega)
  have ad := add_tup (a := ys.take j) (b := ys.drop (j + 1)) (by rw [List.length_take, List.length_drop]; omega)
  have e : ((j + 1 : Nat) : Int) = (j : Int) + 1 := by omega
  rw [e] at c2
  simp [hr, hp, slP_T, c1, c2, ad, del]
abbrev eExp (rs : List PyData) (n : Nat) (o2 o3 o4 o5 o6 : Option D) : Env' := [some (.p (.tuple rs)), some (.p (.int n)), o2, o3, o4, o5, o6, none]
def bExp (self : List D → M D) : MS := sSeq (sIf (tB (m2 (mVar 4) (mL (aNil) gTupD) (lift2 3 neP))) (sSeq (sAsg (.nm 5) (mL (aCons (mComp false (iSeq (mSl (mVar 0) (oSome (mC (.int 1))) (oNone))) (.nm 7) [7] (tTr) (m2 (mSl (mVar 7) (oNone) (oSome (mVar 3))) (mSl (mVar 7) (oSome (m2 (mVar 3) (mC (.int 1)) (lift2 1 addP))) (oNone)) (lift2 1 addP))) (aNil)) (gL1 (lift1 1 tupP))))
    (sSeq (sAsg (.nm 6) (mCall (aCons (mVar 4) (aCons (mCall (aCons (mVar 5) (aCons (mVar 1) (aNil))) (sized 2 self)) (aNil))) (sized 2 φ_multiply_polys)))
    (sSeq (sAsg (.nm 2) (mIf (tB (m2 (m2 (mVar 3) (mC (.int 2)) (lift2 1 modP)) (mC (.int 0)) (lift2 3 eqP))) (mCall (aCons (mVar 2) (aCons (mVar 6) (aNil))) (sized 2 φ_add_polys)) (mCall (aCons (mVar 2) (aCons (mVar 6) (aNil))) (sized 2 φ_subtract))))
    (sNil)))) (sNil))
    (sNil)
/-- one turn, told by its parts -/
theorem x_core {self mul add sub : List D → M D} {CC : Env' → M D} {n j : Nat} {rs xs rest : List PyData} {f part y r : PyData} {o5 o6 : Option D} {st : Sto} (hx : xs ≠ [])
    (hc : CC (eExp rs n (some (.p f)) (some (.p (.int j))) (some (.p (.tuple xs))) o5 o6) st = .ok (.p (.list rest)) st) (hs : self [.p (.tuple rest), .p (.int n)] st = .ok (.p y) st) (hm : mul [.p (.tuple xs), .p y] st = .ok (.p part) st)
    (ha : j % 2 = 0 → add [.p f, .p part] st = .ok (.p r) st) (hb : j % 2 ≠ 0 → sub [.p f, .p part] st = .ok (.p r) st) :
    sSeq (sIf (tB (m2 (mVar 4) (mL (aNil) gTupD) (lift2 3 neP))) (sSeq (sAsg (.nm 5) (mL (aCons CC (aNil)) (gL1 (lift1 1 tupP))))
    (sSeq (sAsg (.nm 6) (mCall (aCons (mVar 4) (aCons (mCall (aCons (mVar 5) (aCons (mVar 1) (aNil))) (sized 2 self)) (aNil))) (sized 2 mul)))
    (sSeq (sAsg (.nm 2) (mIf (tB (m2 (m2 (mVar 3) (mC (.int 2)) (lift2 1 modP)) (mC (.int 0)) (lift2 3 eqP))) (mCall (aCons (mVar 2) (aCons (mVar 6) (aNil))) (sized 2 add)) (mCall (aCons (mVar 2) (aCons (mVar 6) (aNil))) (sized 2 sub))))
    (sNil)))) (sNil))
    (sNil) (eExp rs n (some (.p f)) (some (.p (.int j))) (some (.p (.tuple xs))) o5 o6) st = .nx (eExp rs n (some (.p r)) (some (.p (.int j))) (some (.p (.tuple xs))) (some (.p (.tuple rest))) (some (.p part))) st := by
  have h2 := mod2 j
  unfold eExp at hc ⊢
  by_cases q : j % 2 = 0
  · have := ha q
    simp [hx, hc, hs, hm, h2, q, this, -Int.natCast_emod]
  · have := hb q
    have q' : ((j % 2 : Nat) : Int) ≠ 0 := by omega
    simp [hx, hc, hs, hm, h2, q, q', this, -Int.natCast_emod]
theorem neg_sum (a b : Po.P) : a - b = a + -b := rfl
theorem sumN_zero_step {f : Po.P} : f + 0 = f := by grind
theorem e_expanded {n m w T : Nat} (hn : 1 ≤ n) (hn2 : n ≤ 1000) (hm : m ≤ 1000) : ∀ (s f : Nat), s < f → s ≤ 1000 → (∀ j, j ≤ s → dW w m j ≤ 990 ∧ dT T m j ≤ 900000) → ∀ (c : Nat) (rs : List PyData) (M : List (List Po.P)), TabD n w T rs M → M.length = s → (∀ r ∈ M, r.length = c) → c ≤ m → ∀ st, ∃ r, φ_expanded f [.p (.tuple rs), .p (.int n)] st = .ok (.p r) st ∧ Pg n (dW w m s) (dT T m s) r (dtn s M)
  | s, 0, h, _, _, _, _, _, _, _, _, _, _ => by omega
  | 0, f + 1, h, _, _, c, rs, M, hT, hl, hr, hc, st => by
    have hM : M = [] := List.length_eq_zero_iff.mp hl
    subst hM
    cases hT
    obtain ⟨r, h1, h2⟩ := g_constant (c := n) (x := mkD [1, 1]) (s := 1) (w := 1) rfl (Sz.int 1 (by decide)) (by omega) st
    refine ⟨r, ?_, h2⟩
    simp [φ_expanded, N_expanded, m_expanded, h1]
  | s + 1, f + 1, h, hs1, hb, c, rs, M, hT, hl, hr, hc, st => by
    cases hT with
    | nil => simp at hl
    | @cons d row ds M' hd ht =>
      obtain ⟨xs, rfl, hxs⟩ := hd
      have hx0 : xs.length = c := by rw [hxs.length]; exact hr row List.mem_cons_self
      have hrow : row.length = c := hr row List.mem_cons_self
      have hlen : ds.length = M'.length := ht.length
      have hs : M'.length = s := by simpa using hl
      obtain ⟨b1, b2⟩ := hb (s + 1) (Nat.le_refl _)
      have hcut : cutL (PyData.tuple xs :: ds) (some 1) none = ds := cut_lo (xs := PyData.tuple xs :: ds) (k := 1) (by simp)
      obtain ⟨b3, b4⟩ := hb s (by omega)
      rw [dW] at b1
      rw [dT] at b2
      obtain ⟨env', s', h3, r, o3, o4, o5, o6, e1, e2, hP⟩ := for_inv (mi := iArgs (aCons (m2 (mVar 0) (mC (.int 0)) ixG) (aNil)) enum1) (src := .fix (nums xs)) (g := .tp (.cons (.nm 3) (.cons (.nm 4) .nil))) (b := bExp (φ_expanded f)) (ds := nums xs) (env := eExp (.tuple xs :: ds) n (some (.p (.tuple []))) none none none none) (st := st) (st1 := st)
        (fun i env s' => ∃ r o3 o4 o5 o6, env = eExp (.tuple xs :: ds) n (some (.p r)) o3 o4 o5 o6 ∧ s' = st ∧ Pg n (w + dW w m s + 20 + 21 * i) (i * (T * dT T m s)) r (sumN i fun j => sg j (row.getD j 0 * dtn s (M'.map (del j))))) (src_enum (by simp [eExp])) ⟨_, _, _, _, _, rfl, rfl, nil_poly.mono (Nat.le_refl _) (by omega)⟩ (fun _ _ _ _ => rfl) fun i x env s' hx ⟨r, o3, o4, o5, o6, e1, e2, hP⟩ => by
          obtain ⟨y, hy, rfl⟩ := nums_get hx
          have hi : i < xs.length := (List.getElem?_eq_some_iff.mp hy).1
          obtain ⟨p, hp1, hp2⟩ := hxs.get hy
          have hgd : row.getD i 0 = p := by rw [List.getD_eq_getElem?_getD, hp1]; rfl
          obtain ⟨ys, rfl, _, hz⟩ := hp2.tup
          subst e1 e2
          have h21 : 21 * (i + 1) ≤ 21 * m := Nat.mul_le_mul_left _ (by omega)
          have hmT : (i + 1) * (T * dT T m s) ≤ m * (T * dT T m s) := Nat.mul_le_mul_right _ (by omega)
          have hexp : (i + 1) * (T * dT T m s) = i * (T * dT T m s) + T * dT T m s := by rw [Nat.add_mul, Nat.one_mul]
          refine ⟨eExp (.tuple xs :: ds) n (some (.p r)) (some (.p (.int i))) (some (.p (.tuple ys))) o5 o6, by simp [eExp], ?_⟩
          by_cases hne : ys = []
          · have hp0 : p = 0 := hz.mp hne
            refine ⟨eExp (.tuple xs :: ds) n (some (.p r)) (some (.p (.int i))) (some (.p (.tuple ys))) o5 o6, s', .inl ?_, r, _, _, _, _, rfl, rfl, ?_⟩
            · subst hne
              unfold bExp
              simp [eExp]
            · have : sumN (i + 1) (fun j => sg j (row.getD j 0 * dtn s (M'.map (del j)))) = sumN i (fun j => sg j (row.getD j 0 * dtn s (M'.map (del j)))) := by
                rw [sumN, hgd, hp0]
                have : sg i (0 * dtn s (M'.map (del i))) = 0 := by unfold sg; split <;> grind
                rw [this]
                grind
              rw [this]
              exact hP.mono (by omega) (by omega)
          · have ht' : TabD n w T (ds.map fun d => match d with
              | .tuple zs => .tuple (del i zs)
              | d => d) (M'.map (del i)) := F2.map (fun d q ⟨zs, e, hzs⟩ => by subst e; exact ⟨del i zs, rfl, hzs.del i⟩) ht
            obtain ⟨y, g1, g2⟩ := e_expanded hn hn2 hm s f (by omega) (by omega) (fun j hj => hb j (by omega)) (c - 1) _ _ ht' (by rw [List.length_map]; exact hs) (fun q hq => by
              obtain ⟨q0, hq0, rfl⟩ := List.mem_map.mp hq
              have := hr q0 (List.mem_cons_of_mem _ hq0)
              have := del_len (j := i) (r := q0) (by omega)
              omega) (by omega) s'
            obtain ⟨part, g3, g4⟩ := g_mul hp2 g2 hn hn2 (by omega) (by omega) (by omega) s'
            have g5 : Pg n (w + dW w m s + 20 + 21 * i) (T * dT T m s) part (p * dtn s (M'.map (del i))) := g4.mono (by omega) (Nat.le_refl _)
            obtain ⟨r1, a1, a2⟩ := g_add hP g5 hn (by omega) (by omega) s'
            obtain ⟨r2, a3, a4⟩ := g_sub hP g5 hn (by omega) (by omega) s'
            have hcomp := comp_all (mi := iSeq (mSl (mVar 0) (oSome (mC (.int 1))) (oNone))) (own := [7]) (g := .nm 7) (m := m2 (mSl (mVar 7) (oNone) (oSome (mVar 3))) (mSl (mVar 7) (oSome (m2 (mVar 3) (mC (.int 1)) (lift2 1 addP))) (oNone)) (lift2 1 addP)) (env := eExp (.tuple xs :: ds) n (some (.p r)) (some (.p (.int i))) (some (.p (.tuple ys))) o5 o6) (st := s') (st0 := s') (xs := ds) (e := fun d => d) (h := fun d => match d with
              | .tuple zs => .tuple (del i zs)
              | d => d)
              (iSeq_of (xs := ds) (by simp [eExp, slP_T, hcut]) (.inl rfl)) (by omega) fun d hd => by
                obtain ⟨k, hk, rfl⟩ := List.getElem_of_mem hd
                obtain ⟨q, hq1, zs, hq2, hq3⟩ := ht.get (List.getElem?_eq_getElem hk)
                rw [hq2]
                have hzl : zs.length = c := by rw [hq3.length]; exact hr q (List.mem_cons_of_mem _ (List.mem_of_getElem? hq1))
                exact turn_all (env1 := [some (.p (.tuple (.tuple xs :: ds))), some (.p (.int n)), some (.p r), some (.p (.int i)), some (.p (.tuple ys)), o5, o6, some (.p (.tuple zs))]) (by simp [eExp, wipeE]) (e_delrow (ms := mVar 0) rfl rfl (by omega) (by omega))
            have hW : w + dW w m s + 20 + 21 * i + 21 = w + dW w m s + 20 + 21 * (i + 1) := by omega
            rw [hW, ← hexp] at a2 a4
            by_cases q : i % 2 = 0
            · refine ⟨_, s', .inl (x_core hne hcomp g1 g3 (fun _ => a1) (fun h => absurd q h)), r1, _, _, _, _, rfl, rfl, ?_⟩
              rw [sumN, hgd]
              unfold sg
              rw [if_pos q]
              exact a2
            · refine ⟨_, s', .inl (x_core hne hcomp g1 g3 (fun h => absurd h q) (fun _ => a3)), r2, _, _, _, _, rfl, rfl, ?_⟩
              rw [sumN, hgd]
              have : sg i (p * dtn s (M'.map (del i))) = -(p * dtn s (M'.map (del i))) := by unfold sg; rw [if_neg q]
              rw [this]
              exact a4
      rw [nums_len, hx0] at hP
      have hc21 : 21 * c ≤ 21 * m := Nat.mul_le_mul_left _ hc
      refine ⟨r, ?_, ?_⟩
      · rw [e1, e2] at h3
        unfold bExp at h3
        simp [φ_expanded, N_expanded, m_expanded, eExp] at h3 ⊢
        rw [h3]
        simp
      · rw [dtn, hrow, dW, dT]
        exact hP.mono (by omega) (Nat.mul_le_mul_right _ hc)
end Q
set_option Elab.async false
set_option linter.all false
set_option maxRecDepth 100000
set_option maxHeartbeats 4000000
set_option exponentiation.threshold 20000
namespace Q
open PySem PySem.Spec Fw
open L2 (Key)
/-! ## the program's determinant and partner of a square table -/
structure Sq (n w T s : Nat) (rs : List PyData) (M : List (List Po.P)) : Prop where
  tab : TabD n w T rs M
  hgt : M.length = s
  wid : ∀ r ∈ M, r.length = s
theorem Sq.len {n w T s : Nat} {rs : List PyData} {M : List (List Po.P)} (h : Sq n w T s rs M) : rs.length = s := h.tab.length.trans h.hgt
theorem Sq.row {n w T s i : Nat} {rs : List PyData} {M : List (List Po.P)} (h : Sq n w T s rs M) (hi : i < s) : ∃ (xs : List PyData) (r : List Po.P), rs[i]? = some (.tuple xs) ∧ M[i]? = some r ∧ F2 (Pg n w T) xs r ∧ xs.length = s ∧ r.length = s := by
  have hl : i < rs.length := by rw [h.len]; exact hi
  obtain ⟨r, h1, xs, h2, h3⟩ := h.tab.get (List.getElem?_eq_getElem hl)
  have := h.wid r (List.mem_of_getElem? h1)
  exact ⟨xs, r, by rw [List.getElem?_eq_getElem hl, h2], h1, h3, by rw [h3.length]; exact this, this⟩
theorem Sq.check {n w T s : Nat} {rs : List PyData} {M : List (List Po.P)} (h : Sq n w T s rs M) (h1 : 1 ≤ s) (h5 : s ≤ 5) (hn : 1 ≤ n) (hn2 : n ≤ 1000) (hw : w ≤ 990) (hT : T ≤ 1000000) (st : Sto) : φ_check_table [.p (.tuple rs), .p (.int n)] st = .ok (.p .none) st :=
  e_check_table h.tab (fun e => by have := h.hgt; rw [e] at this; simp at this; omega) (by rw [h.hgt]; exact h5) h.wid h1 h5 hn hn2 hw hT st
theorem Sq.ix0 {n w T s : Nat} {rs : List PyData} {M : List (List Po.P)} (h : Sq n w T s rs M) (h1 : 1 ≤ s) : ∃ xs : List PyData, (∀ st, ixG (.p (.tuple rs)) (.p (.int 0)) st = some (.p (.tuple xs), st)) ∧ xs.length = s := by
  obtain ⟨xs, r, a, b, c, d, e⟩ := h.row (i := 0) (by omega)
  refine ⟨xs, fun st => ?_, d⟩
  have hl : 0 < rs.length := by rw [h.len]; omega
  have := at_nat (xs := rs) (k := 0) hl
  rw [ev_ixT]
  have e2 : rs[0] = .tuple xs := by rw [List.getElem?_eq_getElem hl] at a; exact Option.some.inj a
  rw [e2] at this
  exact congrArg (Option.map fun x => (D.p x, st)) this
theorem e_determinant {n m w T s : Nat} {rs : List PyData} {M : List (List Po.P)} (h : Sq n w T s rs M) (h1 : 1 ≤ s) (h5 : s ≤ 5) (hm : s ≤ m) (hm2 : m ≤ 1000) (hn : 1 ≤ n) (hn2 : n ≤ 1000) (hw : w ≤ 990) (hT : T ≤ 1000000) (hb : ∀ j, j ≤ s → dW w m j ≤ 990 ∧ dT T m j ≤ 900000) (st : Sto) :
    ∃ r, φ_determinant [.p (.tuple rs), .p (.int n)] st = .ok (.p r) st ∧ Pg n (dW w m s) (dT T m s) r (dtn s M) := by
  obtain ⟨r, g1, g2⟩ := e_expanded hn hn2 hm2 s 9 (by omega) (by omega) hb s rs M h.tab h.hgt h.wid hm st
  obtain ⟨xs, i0, hxl⟩ := h.ix0 h1
  have hc := h.check h1 h5 hn hn2 hw hT st
  have hrl := h.len
  refine ⟨r, ?_, g2⟩
  simp [φ_determinant, N_determinant, m_determinant, hc, i0, hxl, hrl, g1]
/-! the partner -/
def adj (s : Nat) (M : List (List Po.P)) : List (List Po.P) := (List.range s).map fun (c : Nat) => (List.range s).map fun (p : Nat) => sg (c + p) (dtn (s - 1) ((del p M).map (del c)))
abbrev ePar (rs : List PyData) (n s N : Nat) (o4 o5 o6 o7 o8 : Option D) : Env' := [some (.p (.tuple rs)), some (.p (.int n)), some (.p (.int s)), some (.loc N), o4, o5, o6, o7, o8, none, none]
def delD (c : Nat) : PyData → PyData
  | .tuple zs => .tuple (del c zs)
  | d => d
/-- a table without a row and a column -/
theorem comp_minor {n w T s c p N : Nat} {rs : List PyData} {M : List (List Po.P)} (h : Sq n w T s rs M) (hc : c < s) (hp : p < s) (hs : s ≤ 1000) {o5 o7 o8 : Option D} (st : Sto) :
    ∃ zs, mComp false (iArgs (aCons (mVar 0) (aNil)) enum1) (.tp (.cons (.nm 9) (.cons (.nm 10) .nil))) [9, 10] (tB (m2 (mVar 9) (mVar 6) (lift2 3 neP))) (m2 (mSl (mVar 10) (oNone) (oSome (mVar 4))) (mSl (mVar 10) (oSome (m2 (mVar 4) (mC (.int 1)) (lift2 1 addP))) (oNone)) (lift2 1 addP)) (ePar rs n s N (some (.p (.int c))) o5 (some (.p (.int p))) o7 o8) st = .ok (.p (.list zs)) st ∧ TabD n w T zs ((del p M).map (del c)) := by
  refine ⟨((rs.zipIdx).filter fun q => decide (q.2 ≠ p)).map fun q => delD c q.1, ?_, ?_⟩
  · refine comp_data (mi := iArgs (aCons (mVar 0) (aNil)) enum1) (own := [9, 10]) (g := .tp (.cons (.nm 9) (.cons (.nm 10) .nil))) (t := tB (m2 (mVar 9) (mVar 6) (lift2 3 neP))) (m := m2 (mSl (mVar 10) (oNone) (oSome (mVar 4))) (mSl (mVar 10) (oSome (m2 (mVar 4) (mC (.int 1)) (lift2 1 addP))) (oNone)) (lift2 1 addP)) (env := ePar rs n s N (some (.p (.int c))) o5 (some (.p (.int p))) o7 o8) (st := st) (st0 := st) (xs := rs.zipIdx) (e := fun q => .tuple [.int (q.2 : Nat), q.1]) (p := fun q => decide (q.2 ≠ p)) (h := fun q => delD c q.1) (src_enum (by simp [ePar])) (by rw [List.length_zipIdx, h.len]; omega) fun q hq => ?_
    obtain ⟨x, i⟩ := q
    have hq' := List.mem_zipIdx_iff_getElem?.mp hq
    have hi : i < s := by have := (List.getElem?_eq_some_iff.mp hq').1; rw [h.len] at this; exact this
    obtain ⟨xs, r, a1, a2, a3, a4, a5⟩ := h.row hi
    simp only at hq'
    rw [a1] at hq'
    cases hq'
    refine turn_if (env1 := [some (.p (.tuple rs)), some (.p (.int n)), some (.p (.int s)), some (.loc N), some (.p (.int c)), o5, some (.p (.int p)), o7, o8, some (.p (.int i)), some (.p (.tuple xs))]) (by simp [ePar, wipeE]) ?_ fun _ => e_delrow (ms := mVar 0) rfl rfl (by omega) (by omega)
    have e : ((i : Int) != (p : Int)) = decide (i ≠ p) := by
      by_cases z : i = p
      · subst z; simp
      · have : (i : Int) ≠ (p : Int) := by omega
        simp [z, this]
    simp [e]
  · have e : ((rs.zipIdx).filter fun q => decide (q.2 ≠ p)).map (fun q => delD c q.1) = (del p rs).map (delD c) := by
      have : ((rs.zipIdx).filter fun q => decide (q.2 ≠ p)).map (·.1) = del p rs := by
        have gen : ∀ (l : List PyData) (k : Nat), k ≤ p → ((l.zipIdx k).filter fun q => decide (q.2 ≠ p)).map (·.1) = del (p - k) l := fun l => by
          induction l with
          | nil => intro k hk; simp [del]
          | cons x l ih =>
            intro k hk
            rw [List.zipIdx_cons]
            by_cases z : k = p
            · subst z
              rw [List.filter_cons_of_neg (by simp)]
              have hall : (l.zipIdx (k + 1)).filter (fun q => decide (q.2 ≠ k)) = l.zipIdx (k + 1) := List.filter_eq_self.mpr fun q hq => by
                have := List.le_snd_of_mem_zipIdx hq
                exact decide_eq_true (by omega)
              rw [hall, List.zipIdx_map_fst]
              simp [del]
            · rw [List.filter_cons_of_pos (by simpa using z), List.map_cons, ih (k + 1) (by omega)]
              have : p - k = (p - (k + 1)) + 1 := by omega
              rw [this]
              simp [del]
        exact gen rs 0 (by omega)
      rw [← this, List.map_map]
      rfl
    rw [e]
    exact F2.map (fun d q ⟨zs, e, hzs⟩ => by subst e; exact ⟨del c zs, rfl, hzs.del c⟩) (h.tab.del p)
end Q
set_option Elab.async false
set_option linter.all false
set_option maxRecDepth 100000
set_option maxHeartbeats 4000000
set_option exponentiation.threshold 20000
namespace Q
open PySem PySem.Spec Fw
open L2 (Key)
theorem get_mid {st r : Sto} {o : Ob} : (st ++ o :: r)[st.length]? = some o := by
  rw [List.getElem?_append_right (Nat.le_refl _)]
  simp
theorem set_mid {st r : Sto} {o o' : Ob} : (st ++ o :: r).set st.length o' = st ++ o' :: r := by
  rw [List.set_append_right _ _ (Nat.le_refl _)]
  simp
/-- a list of data in the store -/
def dL (xs : List PyData) : Ob := .lst (xs.map D.p)
theorem dL_get {st : Sto} {xs : List PyData} {r : Sto} : (st ++ dL xs :: r)[st.length]? = some (.lst (xs.map D.p)) := get_mid
theorem dL_app {st r : Sto} {xs : List PyData} {x : PyData} (h : xs.length ≤ 1000000) : appendG (.loc st.length) [.p x] (st ++ dL xs :: r) = some (.p .none, st ++ dL (xs ++ [x]) :: r) := by
  rw [append_ev dL_get (by simpa using h) rfl, set_mid]
  have e : xs.map D.p ++ [.p x] = (xs ++ [x]).map D.p := by simp
  rw [e]
  rfl
theorem dL_lst {st r : Sto} {xs : List PyData} : isLst (.loc st.length) (st ++ dL xs :: r) = true := isLst_ev dL_get
theorem dL_tup {st r : Sto} {xs : List PyData} : lift1 1 tupP (.loc st.length) (st ++ dL xs :: r) = some (.p (.tuple xs), st ++ dL xs :: r) := by
  have : lift1 1 tupP (.loc st.length) (st ++ dL xs :: r) = _ := lift1_lst (k := 0) (f := tupP) dL_get
  rw [this]
  rfl
theorem dL_nil : dL [] = .lst [] := rfl
def bLine (ex neg : List D → M D) (CC : Env' → M D) : MS := sSeq (sAsg (.nm 7) (mL (aCons CC (aNil)) (gL1 (lift1 1 tupP))))
    (sSeq (sAsg (.nm 8) (mCall (aCons (mVar 7) (aCons (mVar 1) (aNil))) (sized 2 ex)))
    (sSeq (sExp (mMth (mVar 5) (aCons (mIf (tB (m2 (m2 (m2 (mVar 4) (mVar 6) (lift2 1 addP)) (mC (.int 2)) (lift2 1 modP)) (mC (.int 0)) (lift2 3 eqP))) (mVar 8) (mCall (aCons (mVar 8) (aNil)) (sized 1 neg))) (aNil)) appendG))
    (sNil)))
theorem line_core {ex neg : List D → M D} {CC : Env' → M D} {rs zs ys : List PyData} {y r : PyData} {n s N c p : Nat} {o7 o8 : Option D} {S : Sto}
    (hc : CC (ePar rs n s N (some (.p (.int c))) (some (.loc S.length)) (some (.p (.int p))) o7 o8) (S ++ [dL ys]) = .ok (.p (.list zs)) (S ++ [dL ys])) (he : ex [.p (.tuple zs), .p (.int n)] (S ++ [dL ys]) = .ok (.p y) (S ++ [dL ys]))
    (h0 : (c + p) % 2 = 0 → r = y) (h1 : (c + p) % 2 ≠ 0 → neg [.p y] (S ++ [dL ys]) = .ok (.p r) (S ++ [dL ys])) (hl : ys.length ≤ 1000000) :
    bLine ex neg CC (ePar rs n s N (some (.p (.int c))) (some (.loc S.length)) (some (.p (.int p))) o7 o8) (S ++ [dL ys]) = .nx (ePar rs n s N (some (.p (.int c))) (some (.loc S.length)) (some (.p (.int p))) (some (.p (.tuple zs))) (some (.p y))) (S ++ [dL (ys ++ [r])]) := by
  have h2 := mod2 (c + p)
  have e : ((c + p : Nat) : Int) = (c : Int) + (p : Int) := by omega
  rw [e] at h2
  have ha := dL_app (st := S) (r := []) (x := r) hl
  have hi := dL_lst (st := S) (r := []) (xs := ys)
  unfold ePar at hc ⊢
  unfold bLine
  by_cases q : (c + p) % 2 = 0
  · have := h0 q
    subst this
    simp [hc, he, h2, q, ha, hi, -Int.natCast_emod]
  · have := h1 q
    have q' : (((c + p) % 2 : Nat) : Int) ≠ 0 := by omega
    simp [hc, he, h2, q, q', this, ha, hi, -Int.natCast_emod]
theorem line_loop {n m w T s c N : Nat} {rs : List PyData} {M : List (List Po.P)} (h : Sq n w T s rs M) (h5 : s ≤ 5) (hm : s ≤ m) (hm2 : m ≤ 1000) (hn : 1 ≤ n) (hn2 : n ≤ 1000) (hb : ∀ j, j ≤ s → dW w m j ≤ 990 ∧ dT T m j ≤ 900000) (hc : c < s) {o6 o7 o8 : Option D} (S : Sto) :
    ∃ ys o6' o7' o8', sFor (iArgs (aCons (mVar 2) (aNil)) rng1) (.nm 6) (bLine (φ_expanded 9) φ_negative_polys (mComp false (iArgs (aCons (mVar 0) (aNil)) enum1) (.tp (.cons (.nm 9) (.cons (.nm 10) .nil))) [9, 10] (tB (m2 (mVar 9) (mVar 6) (lift2 3 neP))) (m2 (mSl (mVar 10) (oNone) (oSome (mVar 4))) (mSl (mVar 10) (oSome (m2 (mVar 4) (mC (.int 1)) (lift2 1 addP))) (oNone)) (lift2 1 addP)))) (ePar rs n s N (some (.p (.int c))) (some (.loc S.length)) o6 o7 o8) (S ++ [dL []]) = .nx (ePar rs n s N (some (.p (.int c))) (some (.loc S.length)) o6' o7' o8') (S ++ [dL ys]) ∧
      F2 (Pg n (dW w m (s - 1)) (dT T m (s - 1))) ys ((List.range s).map fun (p : Nat) => sg (c + p) (dtn (s - 1) ((del p M).map (del c)))) := by
  obtain ⟨env', st', h3, ys, o6', o7', o8', e1, e2, hF⟩ := for_inv (mi := iArgs (aCons (mVar 2) (aNil)) rng1) (g := .nm 6) (b := bLine (φ_expanded 9) φ_negative_polys (mComp false (iArgs (aCons (mVar 0) (aNil)) enum1) (.tp (.cons (.nm 9) (.cons (.nm 10) .nil))) [9, 10] (tB (m2 (mVar 9) (mVar 6) (lift2 3 neP))) (m2 (mSl (mVar 10) (oNone) (oSome (mVar 4))) (mSl (mVar 10) (oSome (m2 (mVar 4) (mC (.int 1)) (lift2 1 addP))) (oNone)) (lift2 1 addP)))) (env := ePar rs n s N (some (.p (.int c))) (some (.loc S.length)) o6 o7 o8) (st := S ++ [dL []]) (src := .fix ((List.range s).map fun (j : Nat) => .p (.int j)))
    (fun i env st => ∃ ys o6 o7 o8, env = ePar rs n s N (some (.p (.int c))) (some (.loc S.length)) o6 o7 o8 ∧ st = S ++ [dL ys] ∧ F2 (Pg n (dW w m (s - 1)) (dT T m (s - 1))) ys ((List.range i).map fun (p : Nat) => sg (c + p) (dtn (s - 1) ((del p M).map (del c)))))
    (src_rng (n := s) (by simp [ePar]) (by omega)) ⟨[], _, _, _, rfl, rfl, .nil⟩ (fun _ _ _ _ => rfl) fun i x env st hx ⟨ys, o6, o7, o8, e1, e2, hF⟩ => by
      rw [List.getElem?_map] at hx
      cases hi : (List.range s)[i]? with
      | none => rw [hi] at hx; cases hx
      | some j =>
        have hj : j = i ∧ i < s := by
          obtain ⟨a, b⟩ := List.getElem?_eq_some_iff.mp hi
          simp at a b
          exact ⟨b.symm, a⟩
        obtain ⟨rfl, hjs⟩ := hj
        rw [hi] at hx
        cases hx
        subst e1 e2
        obtain ⟨zs, c1, c2⟩ := comp_minor (N := N) h hc hjs (by omega) (o5 := some (.loc S.length)) (o7 := o7) (o8 := o8) (S ++ [dL ys])
        have hdel : (del j M).length = s - 1 := by have := del_len (j := j) (r := M) (by rw [h.hgt]; exact hjs); rw [h.hgt] at this; omega
        obtain ⟨y, g1, g2⟩ := e_expanded hn hn2 hm2 (s - 1) 9 (by omega) (by omega) (fun k hk => hb k (by omega)) (s - 1) zs _ c2 (by rw [List.length_map]; exact hdel) (fun q hq => by
          obtain ⟨q0, hq0, rfl⟩ := List.mem_map.mp hq
          have hq1 : q0 ∈ M := by
            unfold del at hq0
            rcases List.mem_append.mp hq0 with z | z
            · exact List.mem_of_mem_take z
            · exact List.mem_of_mem_drop z
          have := h.wid q0 hq1
          have := del_len (j := c) (r := q0) (by omega)
          omega) (by omega) (S ++ [dL ys])
        obtain ⟨b1, b2⟩ := hb (s - 1) (by omega)
        obtain ⟨ny, g3, g4⟩ := g_neg g2 (by omega) (S ++ [dL ys])
        have hyl : ys.length = j := by rw [hF.length]; simp
        refine ⟨ePar rs n s N (some (.p (.int c))) (some (.loc S.length)) (some (.p (.int j))) o7 o8, by simp [ePar], ?_⟩
        have hrange : (List.range (j + 1)).map (fun (p : Nat) => sg (c + p) (dtn (s - 1) ((del p M).map (del c)))) = (List.range j).map (fun (p : Nat) => sg (c + p) (dtn (s - 1) ((del p M).map (del c)))) ++ [sg (c + j) (dtn (s - 1) ((del j M).map (del c)))] := by rw [List.range_succ, List.map_append]; rfl
        by_cases q : (c + j) % 2 = 0
        · refine ⟨_, _, .inl (line_core c1 g1 (r := y) (fun _ => rfl) (fun h => absurd q h) (by omega)), ys ++ [y], _, _, _, rfl, rfl, ?_⟩
          rw [hrange]
          refine hF.append (.cons ?_ .nil)
          unfold sg
          rw [if_pos q]
          exact g2
        · refine ⟨_, _, .inl (line_core c1 g1 (r := ny) (fun h => absurd h q) (fun _ => g3) (by omega)), ys ++ [ny], _, _, _, rfl, rfl, ?_⟩
          rw [hrange]
          refine hF.append (.cons ?_ .nil)
          unfold sg
          rw [if_neg q]
          exact g4
  rw [e1, e2] at h3
  refine ⟨ys, o6', o7', o8', h3, ?_⟩
  rw [show (List.map (fun (j : Nat) => D.p (.int j)) (List.range s)).length = s by simp] at hF
  exact hF
theorem outer_core {LP : MS} {rs fs ys : List PyData} {n s c : Nat} {o5 o6 o7 o8 o6' o7' o8' : Option D} {st g : Sto}
    (hl : LP (ePar rs n s st.length (some (.p (.int c))) (some (.loc (st ++ dL fs :: g).length)) o6 o7 o8) ((st ++ dL fs :: g) ++ [dL []]) = .nx (ePar rs n s st.length (some (.p (.int c))) (some (.loc (st ++ dL fs :: g).length)) o6' o7' o8') ((st ++ dL fs :: g) ++ [dL ys])) (h : fs.length ≤ 1000000) :
    sSeq (sAsg (.nm 5) (mL (aNil) gMutD)) (sSeq LP (sSeq (sExp (mMth (mVar 3) (aCons (mL (aCons (mVar 5) (aNil)) (gL1 (lift1 1 tupP))) (aNil)) appendG))
    (sNil))) (ePar rs n s st.length (some (.p (.int c))) o5 o6 o7 o8) (st ++ dL fs :: g) = .nx (ePar rs n s st.length (some (.p (.int c))) (some (.loc (st ++ dL fs :: g).length)) o6' o7' o8') (st ++ dL (fs ++ [.tuple ys]) :: (g ++ [dL ys])) := by
  have h1 := dL_tup (st := st ++ dL fs :: g) (r := []) (xs := ys)
  have h2 := dL_app (st := st) (r := g ++ [dL ys]) (x := .tuple ys) h
  have h3 := dL_lst (st := st) (r := g ++ [dL ys]) (xs := fs)
  have e : st ++ dL fs :: (g ++ [dL ys]) = (st ++ dL fs :: g) ++ [dL ys] := by simp
  rw [e] at h2 h3
  rw [dL_nil] at hl
  generalize st ++ dL fs :: g = S at *
  generalize st ++ dL (fs ++ [.tuple ys]) :: (g ++ [dL ys]) = S2 at *
  generalize S ++ [dL ys] = S1 at *
  unfold ePar at hl ⊢
  simp [hl, h1, h2, h3]
theorem e_partner {n m w T s : Nat} {rs : List PyData} {M : List (List Po.P)} (h : Sq n w T s rs M) (h1 : 1 ≤ s) (h5 : s ≤ 5) (hm : s ≤ m) (hm2 : m ≤ 1000) (hn : 1 ≤ n) (hn2 : n ≤ 1000) (hw : w ≤ 990) (hT : T ≤ 1000000) (hb : ∀ j, j ≤ s → dW w m j ≤ 990 ∧ dT T m j ≤ 900000) (st : Sto) :
    ∃ rs', φ_partner [.p (.tuple rs), .p (.int n)] st = .ok (.p (.tuple rs')) st ∧ Sq n (dW w m (s - 1)) (dT T m (s - 1)) s rs' (adj s M) := by
  obtain ⟨xs, i0, hxl⟩ := h.ix0 h1
  have hc := h.check h1 h5 hn hn2 hw hT st
  have hrl := h.len
  obtain ⟨env', st', h3, fs, g, o4', o5', o6', o7', o8', e1, e2, hF⟩ := for_inv (mi := iArgs (aCons (mVar 2) (aNil)) rng1) (g := .nm 4) (b := sSeq (sAsg (.nm 5) (mL (aNil) gMutD)) (sSeq (sFor (iArgs (aCons (mVar 2) (aNil)) rng1) (.nm 6) (bLine (φ_expanded 9) φ_negative_polys (mComp false (iArgs (aCons (mVar 0) (aNil)) enum1) (.tp (.cons (.nm 9) (.cons (.nm 10) .nil))) [9, 10] (tB (m2 (mVar 9) (mVar 6) (lift2 3 neP))) (m2 (mSl (mVar 10) (oNone) (oSome (mVar 4))) (mSl (mVar 10) (oSome (m2 (mVar 4) (mC (.int 1)) (lift2 1 addP))) (oNone)) (lift2 1 addP))))) (sSeq (sExp (mMth (mVar 3) (aCons (mL (aCons (mVar 5) (aNil)) (gL1 (lift1 1 tupP))) (aNil)) appendG))
    (sNil)))) (env := ePar rs n s st.length none none none none none) (st := st ++ [dL []]) (src := .fix ((List.range s).map fun (j : Nat) => .p (.int j)))
    (fun i env z => ∃ fs g o4 o5 o6 o7 o8, env = ePar rs n s st.length o4 o5 o6 o7 o8 ∧ z = st ++ dL fs :: g ∧ F2 (RowD n (dW w m (s - 1)) (dT T m (s - 1))) fs ((List.range i).map fun (c : Nat) => (List.range s).map fun (p : Nat) => sg (c + p) (dtn (s - 1) ((del p M).map (del c)))))
    (src_rng (n := s) (by simp [ePar]) (by omega)) ⟨[], [], _, _, _, _, _, rfl, rfl, .nil⟩ (fun _ _ _ _ => rfl) fun i x env z hx ⟨fs, g, o4, o5, o6, o7, o8, e1, e2, hF⟩ => by
      rw [List.getElem?_map] at hx
      cases hi : (List.range s)[i]? with
      | none => rw [hi] at hx; cases hx
      | some j =>
        have hj : j = i ∧ i < s := by
          obtain ⟨a, b⟩ := List.getElem?_eq_some_iff.mp hi
          simp at a b
          exact ⟨b.symm, a⟩
        obtain ⟨rfl, hjs⟩ := hj
        rw [hi] at hx
        cases hx
        subst e1 e2
        obtain ⟨ys, o6', o7', o8', g1, g2⟩ := line_loop (N := st.length) h h5 hm hm2 hn hn2 hb hjs (o6 := o6) (o7 := o7) (o8 := o8) (st ++ dL fs :: g)
        have hfl : fs.length = j := by rw [hF.length]; simp
        refine ⟨ePar rs n s st.length (some (.p (.int j))) o5 o6 o7 o8, by simp [ePar], _, _, .inl (outer_core (o5 := o5) g1 (by omega)), fs ++ [.tuple ys], g ++ [dL ys], _, _, _, _, _, rfl, rfl, ?_⟩
        rw [List.range_succ, List.map_append]
        exact hF.append (.cons ⟨ys, rfl, g2⟩ .nil)
  rw [e1, e2] at h3
  rw [show (List.map (fun (j : Nat) => D.p (.int j)) (List.range s)).length = s by simp] at hF
  refine ⟨fs, ?_, hF, by unfold adj; simp, fun r hr => ?_⟩
  · have htup := dL_tup (st := st) (r := g) (xs := fs)
    have htk : (st ++ dL fs :: g).take st.length = st := by simp
    rw [dL_nil] at h3
    unfold bLine ePar at h3
    generalize st ++ dL fs :: g = S at *
    simp [φ_partner, N_partner, m_partner, hc, i0, hxl, hrl, h3, htup, htk]
  · unfold adj at hr
    obtain ⟨c, _, rfl⟩ := List.mem_map.mp hr
    simp
end Q
set_option Elab.async false
set_option linter.all false
set_option maxRecDepth 100000
set_option maxHeartbeats 4000000
namespace Po
/-! ## slopes -/
def sh (k : Nat) (g : G) (d : Int) : G := fun i => if i = k then g i + d else g i
theorem sh_at (k : Nat) (g : G) (d : Int) : sh k g d k = g k + d := if_pos rfl
theorem sh_ne {k j : Nat} (g : G) (d : Int) (h : j ≠ k) : sh k g d j = g j := if_neg h
theorem sh_sh (k : Nat) (g : G) (d e : Int) : sh k (sh k g d) e = sh k g (d + e) := by
  funext i
  unfold sh
  split
  · omega
  · rfl
theorem sh_zero (k : Nat) (g : G) : sh k g 0 = g := by
  funext i
  unfold sh
  split
  · omega
  · rfl
theorem sh_comm {k j : Nat} (g : G) (d e : Int) : sh k (sh j g d) e = sh j (sh k g e) d := by
  funext i
  unfold sh
  split <;> split <;> omega
theorem sh_iff {k : Nat} {g h : G} : sh k g (-1) = h ↔ g = sh k h 1 := by
  constructor
  · intro e
    rw [← e, sh_sh]
    exact (sh_zero k g).symm
  · intro e
    rw [e, sh_sh]
    exact sh_zero k h
def difL (k : Nat) (l : L) : L := l.map fun t => (sh k t.1 (-1), t.2 * (t.1 k : Rat))
theorem sem_dif (k : Nat) (l : L) (g : G) : sem (difL k l) g = sem l (sh k g 1) * ((g k + 1 : Int) : Rat) := by
  induction l with
  | nil => show (0 : Rat) = 0 * _; rw [Rat.zero_mul]
  | cons t l ih =>
    show sem ((sh k t.1 (-1), t.2 * (t.1 k : Rat)) :: difL k l) g = _
    rw [sem, sem, ih, Rat.add_mul]
    congr 1
    by_cases q : t.1 = sh k g 1
    · rw [if_pos q, if_pos (sh_iff.mpr q)]
      congr 2
      rw [q, sh_at]
    · rw [if_neg q, if_neg (fun z => q (sh_iff.mp z)), Rat.zero_mul]
def D (k : Nat) (p : P) : P := Quotient.lift (fun l => cls (difL k l)) (fun l m (h : ∀ g, sem l g = sem m g) => cls_eq.mpr fun g => by rw [sem_dif, sem_dif, h]) p
theorem D_cls (k : Nat) (l : L) : D k (cls l) = cls (difL k l) := rfl
theorem co_D (k : Nat) (p : P) (g : G) : co (D k p) g = co p (sh k g 1) * ((g k + 1 : Int) : Rat) := by
  induction p using Quotient.ind with
  | _ l => exact sem_dif k l g
theorem co_zero (k : G) : co 0 k = 0 := by
  show co (C 0) k = 0
  rw [co_C]
  split <;> rfl
theorem co_Cmul (q : Rat) (p : P) (k : G) : co (C q * p) k = q * co p k := by
  induction p using Quotient.ind with
  | _ l =>
    show sem (mul [(fun _ => 0, q)] l) k = q * sem l k
    have e : mul [(fun _ => 0, q)] l = tmul (fun _ => 0, q) l := List.append_nil _
    rw [e, sem_tmul]
    congr 2
    funext i
    show k i - 0 = k i
    omega
theorem D_add (k : Nat) (p q : P) : D k (p + q) = D k p + D k q := ext fun g => by rw [co_D, co_add, co_add, co_D, co_D, Rat.add_mul]
theorem D_zero (k : Nat) : D k 0 = 0 := ext fun g => by rw [co_D, co_zero, co_zero, Rat.zero_mul]
theorem D_C (k : Nat) (c : Rat) (p : P) : D k (C c * p) = C c * D k p := ext fun g => by rw [co_D, co_Cmul, co_Cmul, co_D, Rat.mul_assoc]
theorem D_comm (k j : Nat) (p : P) : D k (D j p) = D j (D k p) := by
  by_cases h : k = j
  · rw [h]
  · refine ext fun g => ?_
    rw [co_D, co_D, co_D, co_D, sh_ne g 1 (Ne.symm h), sh_ne g 1 h, sh_comm (k := j) (j := k), Rat.mul_assoc, Rat.mul_assoc, Rat.mul_comm ((g j + 1 : Int) : Rat)]
def Dt (k : Nat) : Nat → P → P
  | 0, p => p
  | m + 1, p => D k (Dt k m p)
def Dm : Nat → G → P → P
  | 0, _, p => p
  | n + 1, g, p => Dt n (g n).toNat (Dm n g p)
theorem Dt_add (k m : Nat) (p q : P) : Dt k m (p + q) = Dt k m p + Dt k m q := by
  induction m with
  | zero => rfl
  | succ m ih => rw [Dt, ih, D_add]; rfl
theorem Dt_C (k m : Nat) (c : Rat) (p : P) : Dt k m (C c * p) = C c * Dt k m p := by
  induction m with
  | zero => rfl
  | succ m ih => rw [Dt, ih, D_C]; rfl
theorem Dt_zero (k m : Nat) : Dt k m 0 = 0 := by
  induction m with
  | zero => rfl
  | succ m ih => rw [Dt, ih, D_zero]
theorem D_Dt (k j m : Nat) (p : P) : D k (Dt j m p) = Dt j m (D k p) := by
  induction m with
  | zero => rfl
  | succ m ih => rw [Dt, D_comm, ih]; rfl
theorem Dt_Dt (k m j i : Nat) (p : P) : Dt k m (Dt j i p) = Dt j i (Dt k m p) := by
  induction m with
  | zero => rfl
  | succ m ih => rw [Dt, ih, D_Dt]; rfl
theorem Dt_plus (k m i : Nat) (p : P) : Dt k (m + i) p = Dt k m (Dt k i p) := by
  induction m with
  | zero => rw [Nat.zero_add]; rfl
  | succ m ih => rw [Nat.add_right_comm, Dt, ih]; rfl
theorem Dm_add (n : Nat) (g : G) (p q : P) : Dm n g (p + q) = Dm n g p + Dm n g q := by
  induction n with
  | zero => rfl
  | succ n ih => rw [Dm, ih, Dt_add]; rfl
theorem Dm_C (n : Nat) (g : G) (c : Rat) (p : P) : Dm n g (C c * p) = C c * Dm n g p := by
  induction n with
  | zero => rfl
  | succ n ih => rw [Dm, ih, Dt_C]; rfl
theorem Dm_zero (n : Nat) (g : G) : Dm n g 0 = 0 := by
  induction n with
  | zero => rfl
  | succ n ih => rw [Dm, ih, Dt_zero]
theorem Dt_Dm (k m n : Nat) (g : G) (p : P) : Dt k m (Dm n g p) = Dm n g (Dt k m p) := by
  induction n with
  | zero => rfl
  | succ n ih => rw [Dm, Dt_Dt, ih]; rfl
theorem Dm_plus (n : Nat) (g h : G) (hg : ∀ i, 0 ≤ g i) (hh : ∀ i, 0 ≤ h i) (p : P) : Dm n (fun i => g i + h i) p = Dm n g (Dm n h p) := by
  induction n with
  | zero => rfl
  | succ n ih =>
    have e : (g n + h n).toNat = (g n).toNat + (h n).toNat := by have := hg n; have := hh n; omega
    rw [Dm, ih, e, Dt_plus, Dm, Dm, ← Dt_Dm]
def ActL (n : Nat) : L → P → P
  | [], _ => 0
  | t :: l, q => C t.2 * Dm n t.1 q + ActL n l q
theorem Act_append (n : Nat) (l m : L) (q : P) : ActL n (l ++ m) q = ActL n l q + ActL n m q := by
  induction l with
  | nil => show ActL n m q = 0 + ActL n m q; grind
  | cons t l ih =>
    show C t.2 * Dm n t.1 q + ActL n (l ++ m) q = C t.2 * Dm n t.1 q + ActL n l q + ActL n m q
    rw [ih]
    grind
theorem co_Act (n : Nat) (l : L) (q : P) (k : G) : co (ActL n l q) k = lin l fun g => co (Dm n g q) k := by
  induction l with
  | nil => exact co_zero k
  | cons t l ih =>
    show co (C t.2 * Dm n t.1 q + ActL n l q) k = t.2 * co (Dm n t.1 q) k + lin l _
    rw [co_add, co_Cmul, ih]
theorem Act_congr {n : Nat} {l m : L} (h : cls l = cls m) (q : P) : ActL n l q = ActL n m q := ext fun k => by
  rw [co_Act, co_Act]
  exact lin_congr (cls_eq.mp h) _
theorem Act_add2 (n : Nat) (l : L) (p q : P) : ActL n l (p + q) = ActL n l p + ActL n l q := by
  induction l with
  | nil => show (0 : P) = 0 + 0; grind
  | cons t l ih =>
    show C t.2 * Dm n t.1 (p + q) + ActL n l (p + q) = C t.2 * Dm n t.1 p + ActL n l p + (C t.2 * Dm n t.1 q + ActL n l q)
    rw [ih, Dm_add]
    grind
theorem Act_tmul {n : Nat} {s : G × Rat} {m : L} (hs : ∀ i, 0 ≤ s.1 i) (hm : ∀ t ∈ m, ∀ i, 0 ≤ t.1 i) (q : P) : ActL n (tmul s m) q = C s.2 * Dm n s.1 (ActL n m q) := by
  induction m with
  | nil =>
    show (0 : P) = C s.2 * Dm n s.1 0
    rw [Dm_zero]
    grind
  | cons t m ih =>
    show C (s.2 * t.2) * Dm n (fun i => s.1 i + t.1 i) q + ActL n (tmul s m) q = C s.2 * Dm n s.1 (C t.2 * Dm n t.1 q + ActL n m q)
    rw [ih fun u hu => hm u (List.mem_cons_of_mem _ hu), Dm_plus n s.1 t.1 hs (hm t List.mem_cons_self), Dm_add, Dm_C, C_mul]
    grind
theorem Act_mul {n : Nat} {l m : L} (hl : ∀ t ∈ l, ∀ i, 0 ≤ t.1 i) (hm : ∀ t ∈ m, ∀ i, 0 ≤ t.1 i) (q : P) : ActL n (mul l m) q = ActL n l (ActL n m q) := by
  induction l with
  | nil => rfl
  | cons t l ih =>
    show ActL n (tmul t m ++ mul l m) q = C t.2 * Dm n t.1 (ActL n m q) + ActL n l (ActL n m q)
    rw [Act_append, Act_tmul (hl t List.mem_cons_self) hm, ih fun u hu => hl u (List.mem_cons_of_mem _ hu)]
/-! ## the same, all at once -/
def fallK (h : Int) : Nat → Int
  | 0 => 1
  | m + 1 => fallK h m * (h - m)
def fall : Nat → G → G → Int
  | 0, _, _ => 1
  | n + 1, t, a => fall n t a * fallK (t n) (a n).toNat
theorem fallK_zero {h : Int} {m : Nat} (h0 : 0 ≤ h) (hm : h < m) : fallK h m = 0 := by
  induction m with
  | zero => omega
  | succ m ih =>
    rw [fallK]
    by_cases q : h < m
    · rw [ih q, Int.zero_mul]
    · have : h - m = 0 := by omega
      rw [this, Int.mul_zero]
theorem fall_zero {n i : Nat} {t a : G} (hi : i < n) (h0 : 0 ≤ t i) (h : t i < a i) : fall n t a = 0 := by
  induction n with
  | zero => omega
  | succ n ih =>
    rw [fall]
    by_cases q : i = n
    · subst q
      rw [fallK_zero h0 (by omega), Int.mul_zero]
    · rw [ih (by omega), Int.zero_mul]
def low (n : Nat) (t a : G) : G := fun i => if i < n then t i - ((a i).toNat : Int) else t i
theorem Dt_cls (k m : Nat) (l : L) : Dt k m (cls l) = cls (l.map fun t => (sh k t.1 (-(m : Int)), t.2 * (fallK (t.1 k) m : Rat))) := by
  induction m with
  | zero =>
    show cls l = _
    congr 1
    rw [← List.map_id l]
    rw [List.map_map]
    apply List.map_congr_left
    intro t _
    show t = (sh k t.1 (-0), t.2 * ((1 : Int) : Rat))
    have : (-(0 : Int)) = 0 := rfl
    rw [this, sh_zero]
    have : t.2 * ((1 : Int) : Rat) = t.2 := Rat.mul_one _
    rw [this]
  | succ m ih =>
    rw [Dt, ih, D_cls]
    congr 1
    unfold difL
    rw [List.map_map]
    apply List.map_congr_left
    intro t _
    simp only [Function.comp, Prod.mk.injEq]
    refine ⟨?_, ?_⟩
    · rw [sh_sh]
      congr 1
      omega
    · rw [sh_at, fallK, Rat.intCast_mul, Rat.mul_assoc]
      rfl
theorem Dm_cls (n : Nat) (a : G) (l : L) : Dm n a (cls l) = cls (l.map fun t => (low n t.1 a, t.2 * (fall n t.1 a : Rat))) := by
  induction n with
  | zero =>
    show cls l = _
    congr 1
    rw [← List.map_id l]
    rw [List.map_map]
    apply List.map_congr_left
    intro t _
    show t = (low 0 t.1 a, t.2 * ((1 : Int) : Rat))
    have : t.2 * ((1 : Int) : Rat) = t.2 := Rat.mul_one _
    rw [this]
    rfl
  | succ n ih =>
    rw [Dm, ih, Dt_cls]
    congr 1
    rw [List.map_map]
    apply List.map_congr_left
    intro t _
    simp only [Function.comp, Prod.mk.injEq]
    refine ⟨?_, ?_⟩
    · funext i
      unfold sh low
      by_cases q : i = n
      · subst q
        rw [if_pos rfl, if_neg (by omega), if_pos (by omega)]
        omega
      · rw [if_neg q]
        by_cases z : i < n
        · rw [if_pos z, if_pos (by omega)]
        · rw [if_neg z, if_neg (by omega)]
    · have : low n t.1 a n = t.1 n := if_neg (by omega)
      rw [this, fall, Rat.intCast_mul, Rat.mul_assoc]
end Po
set_option Elab.async false
set_option linter.all false
set_option maxRecDepth 100000
set_option maxHeartbeats 4000000
set_option exponentiation.threshold 20000
namespace Q
open PySem PySem.Spec Fw
open L2 (Key)
/-! ## slopes of polynomials -/
def lowr (k : Nat) (l : List Int) : List Int := l.set k (l.getD k 0 - 1)
theorem lowr_len (k : Nat) (l : List Int) : (lowr k l).length = l.length := List.length_set
theorem lowr_cut {k : Nat} {l : List Int} (h : k < l.length) : l.take k ++ [l.getD k 0 - 1] ++ l.drop (k + 1) = lowr k l := by
  unfold lowr
  rw [List.set_eq_take_append_cons_drop, if_pos h]
  simp
theorem lowr_fn {k : Nat} {l : List Int} (h : k < l.length) : fnE (lowr k l) = Po.sh k (fnE l) (-1) := by
  funext i
  unfold fnE lowr Po.sh
  rw [List.getD_eq_getElem?_getD, List.getD_eq_getElem?_getD, List.getElem?_set]
  by_cases q : i = k
  · subst q
    rw [if_pos rfl, if_pos h, if_pos rfl]
    show l[i]?.getD 0 - 1 = l.getD i 0 + -1
    rw [List.getD_eq_getElem?_getD]
    omega
  · rw [if_neg (Ne.symm q), if_neg q]
    show l[i]?.getD 0 = l.getD i 0
    rw [List.getD_eq_getElem?_getD]
theorem lowr_nn {k : Nat} {l : List Int} (h : ∀ i ∈ l, 0 ≤ i) (hk : 0 < l.getD k 0) : ∀ i ∈ lowr k l, 0 ≤ i := fun i hi => by
  rcases List.mem_or_eq_of_mem_set hi with z | z
  · exact h i z
  · omega
/-- the terms of a slope -/
def slU (k : Nat) (l : List U) : List U := (l.filter fun t => decide (0 < t.1.getD k 0)).map fun t => (lowr k t.1, rat (t.2.2 * (t.1.getD k 0 : Rat)), t.2.2 * (t.1.getD k 0 : Rat))
theorem slU_cls {n k : Nat} {l : List U} (hk : k < n) (hl : ∀ t ∈ l, t.1.length = n ∧ ∀ i ∈ t.1, 0 ≤ i) : Po.cls (mth (slU k l)) = Po.D k (Po.cls (mth l)) := by
  rw [Po.D_cls]
  refine Po.cls_eq.mpr fun g => ?_
  induction l with
  | nil => rfl
  | cons t l ih =>
    have ih := ih fun u hu => hl u (List.mem_cons_of_mem _ hu)
    obtain ⟨h1, h2⟩ := hl t List.mem_cons_self
    have hg : fnE t.1 k = t.1.getD k 0 := rfl
    have hr : Po.difL k (mth (t :: l)) = (Po.sh k (fnE t.1) (-1), t.2.2 * (t.1.getD k 0 : Rat)) :: Po.difL k (mth l) := rfl
    rw [hr, Po.sem, ← ih]
    unfold slU
    by_cases q : 0 < t.1.getD k 0
    · rw [List.filter_cons_of_pos (by simpa using q), List.map_cons]
      have e : mth ((lowr k t.1, rat (t.2.2 * (t.1.getD k 0 : Rat)), t.2.2 * (t.1.getD k 0 : Rat)) :: slU k l) = (fnE (lowr k t.1), t.2.2 * (t.1.getD k 0 : Rat)) :: mth (slU k l) := rfl
      unfold slU at e
      rw [e, Po.sem, lowr_fn (by omega)]
    · rw [List.filter_cons_of_neg (by simpa using q)]
      have h0 : t.1.getD k 0 = 0 := by
        have : 0 ≤ t.1.getD k 0 := by
          rw [List.getD_eq_getElem?_getD, List.getElem?_eq_getElem (show k < t.1.length by omega)]
          exact h2 _ (List.getElem_mem _)
        omega
      rw [h0]
      have : t.2.2 * ((0 : Int) : Rat) = 0 := Rat.mul_zero _
      rw [this]
      split <;> rw [Rat.zero_add]
theorem sz_nat {e : Int} (h0 : 0 ≤ e) (h : e ≤ 1000) : Sz (2 ^ 10) 0 (e : Rat) := Sz.int e (by show e.natAbs * 1 ≤ 1024; omega)
theorem slU_ok {n k w : Nat} {l : List U} (hk : k < n) (hl : ∀ t ∈ l, Okt n (2 ^ (4 * w)) w t) (he : ∀ t ∈ l, t.1.getD k 0 ≤ 1000) : ∀ t ∈ slU k l, Okt n (2 ^ (4 * (w + 10))) (w + 10) t := fun t ht => by
  obtain ⟨u, hu, rfl⟩ := List.mem_map.mp ht
  obtain ⟨h1, h2⟩ := List.mem_filter.mp hu
  have h3 : 0 < u.1.getD k 0 := of_decide_eq_true h2
  have o := hl u h1
  have : Okt n (2 ^ (4 * w) * 2 ^ 10) w (lowr k u.1, rat (u.2.2 * (u.1.getD k 0 : Rat)), u.2.2 * (u.1.getD k 0 : Rat)) := ⟨(lowr_len _ _).trans o.len, lowr_nn o.nn h3, IsR.rat _, o.sz.mul (sz_nat (by omega) (he u h1))⟩
  refine (this.up 10).mono ?_
  calc 2 ^ (4 * w) * 2 ^ 10 * 6 ^ 10 ≤ 2 ^ (4 * w) * 2 ^ 10 * 2 ^ (3 * 10) := Nat.mul_le_mul_left _ (six_le 10)
    _ = 2 ^ (4 * (w + 10)) := by rw [← Nat.pow_add, ← Nat.pow_add]; congr 1 <;> omega
/-- exponents at most 1000, by the polynomial's own bound -/
theorem Dg.le {n c k e : Nat} {l : List U} (h : PolyL n c k l) (hd : Dg e (Po.cls (mth l))) : ∀ t ∈ l, ∀ j, t.1.getD j 0 ≤ (e : Int) := fun t ht j => by
  refine hd (fnE t.1) ?_ j
  rw [Po.co_cls, sum_sem (h.ok t ht).len fun u hu => (h.ok u hu).len, sumK_nd h.nd t ht]
  exact h.nz t ht
theorem Dg.D {e : Nat} {p : Po.P} (h : Dg e p) (k : Nat) : Dg e (Po.D k p) := fun g hg j => by
  rw [Po.co_D] at hg
  have : Po.co p (Po.sh k g 1) ≠ 0 := fun z => hg (by rw [z, Rat.zero_mul])
  have := h _ this j
  unfold Po.sh at this
  split at this <;> omega
/-! the law's slope -/
def bSl (by' : List D → M D) : MS := sSeq (sIf (tB (m2 (m2 (mVar 3) (mVar 1) ixG) (mC (.int 0)) (lift2 3 gtP))) (sSeq (sExp (mMth (mVar 2) (aCons (mL (aCons (m2 (m2 (mSl (mVar 3) (oNone) (oSome (mVar 1))) (mL (aCons (m2 (m2 (mVar 3) (mVar 1) ixG) (mC (.int 1)) (lift2 1 subP)) (aNil)) gTupD) (lift2 1 addP)) (mSl (mVar 3) (oSome (m2 (mVar 1) (mC (.int 1)) (lift2 1 addP))) (oNone)) (lift2 1 addP)) (aCons (mCall (aCons (mVar 4) (aCons (mL (aCons (m2 (mVar 3) (mVar 1) ixG) (aCons (mC (.int 1)) (aNil))) gTupD) (aNil))) (sized 2 by')) (aNil))) gTupD) (aNil)) appendG))
    (sNil)) (sNil))
    (sNil)
abbrev eSl (x : PyData) (k N : Nat) (a b : PyData) : Env' := [some (.p x), some (.p (.int k)), some (.loc N), some (.p a), some (.p b)]
theorem sl_core {by' : List D → M D} {x b r : PyData} {k : Nat} {l : List Int} {S : Sto} {ys : List PyData} (hk : k < l.length) (hl : l.length ≤ 1000) (hy : ys.length ≤ 1000000) (h : 0 < l.getD k 0 → by' [.p b, .p (.tuple [.int (l.getD k 0), .int 1])] (S ++ [dL ys]) = .ok (.p r) (S ++ [dL ys])) :
    bSl by' (eSl x k S.length (tupI l) b) (S ++ [dL ys]) = .nx (eSl x k S.length (tupI l) b) (S ++ [dL (if 0 < l.getD k 0 then ys ++ [.tuple [tupI (lowr k l), r]] else ys)]) := by
  have i1 := fun st => ix_tupI (st := st) hk
  by_cases q : 0 < l.getD k 0
  · have hr := h q
    rw [if_pos q]
    have c1 := cut_hi (xs := l.map PyData.int) (k := k) (by rw [List.length_map]; omega)
    have c2 := cut_lo (xs := l.map PyData.int) (k := k + 1) (by rw [List.length_map]; omega)
    have e : ((k + 1 : Nat) : Int) = (k : Int) + 1 := by omega
    rw [e] at c2
    have a1 := add_tup (a := (l.map PyData.int).take k) (b := [.int (l.getD k 0 - 1)]) (by rw [List.length_take]; simp; omega)
    have a2 := add_tup (a := (l.map PyData.int).take k ++ [.int (l.getD k 0 - 1)]) (b := (l.map PyData.int).drop (k + 1)) (by rw [List.length_append, List.length_take, List.length_drop]; simp; omega)
    have e2 : (l.map PyData.int).take k ++ [.int (l.getD k 0 - 1)] ++ (l.map PyData.int).drop (k + 1) = (lowr k l).map PyData.int := by
      rw [← lowr_cut hk, List.map_append, List.map_append, List.map_take, List.map_drop]
      rfl
    rw [e2] at a2
    have ha := dL_app (st := S) (r := []) (xs := ys) (x := .tuple [.tuple ((lowr k l).map PyData.int), r]) hy
    have hi := dL_lst (st := S) (r := []) (xs := ys)
    have hsl : ∀ lo hi, slP (tupI l) lo hi = some (.tuple (cutL (l.map PyData.int) lo hi)) := fun _ _ => rfl
    unfold tupI at ha ⊢
    unfold tupI at i1 hsl
    generalize (l.map PyData.int).take k = u at *
    generalize (l.map PyData.int).drop (k + 1) = v at *
    generalize (lowr k l).map PyData.int = z at *
    generalize l.getD k 0 = i at *
    generalize l.map PyData.int = y at *
    simp [bSl, eSl, i1, q, hi, hsl, c1, c2, a1, a2, hr, ha]
  · rw [if_neg q]
    generalize l.getD k 0 = i at *
    simp [bSl, eSl, i1, q]
end Q
set_option Elab.async false
set_option linter.all false
set_option maxRecDepth 100000
set_option maxHeartbeats 4000000
set_option exponentiation.threshold 20000
namespace Q
open PySem PySem.Spec Fw
open L2 (Key)
theorem isr_i (i : Int) : IsR (.tuple [.int i, .int 1]) (i : Rat) := rfl
theorem slU_take {k i : Nat} {l : List U} {t : U} (h : l[i]? = some t) : slU k (l.take (i + 1)) = slU k (l.take i) ++ (if 0 < t.1.getD k 0 then [(lowr k t.1, rat (t.2.2 * (t.1.getD k 0 : Rat)), t.2.2 * (t.1.getD k 0 : Rat))] else []) := by
  rw [List.take_add_one, h]
  unfold slU
  rw [List.filter_append, List.map_append]
  congr 1
  by_cases q : 0 < t.1.getD k 0
  · rw [if_pos q]
    show List.map _ (List.filter _ [t]) = _
    rw [List.filter_cons_of_pos (by simpa using q)]
    rfl
  · rw [if_neg q]
    show List.map _ (List.filter _ [t]) = _
    rw [List.filter_cons_of_neg (by simpa using q)]
    rfl
theorem slU_len (k : Nat) (l : List U) : (slU k l).length ≤ l.length := by
  unfold slU
  rw [List.length_map]
  exact List.length_filter_le _ _
theorem sl_loop {by' : List D → M D} {body : MS} {n k : Nat} {l : List U} {S : Sto} {e : Env' → Prop} {env0 : Env'} {g : G} (hl : l.length ≤ 1000000)
    (hs : iSeq (mVar 0) env0 (S ++ [dL []]) = .ok (.fix ((l.map trm).map .p)) (S ++ [dL []])) (h0 : e env0)
    (hb : ∀ t ∈ l, ∀ env ys, e env → ys.length ≤ 1000000 → ∃ env1 env2, gSet g (.p (trm t)) env = some env1 ∧ e env2 ∧ body env1 (S ++ [dL ys]) = .nx env2 (S ++ [dL (if 0 < t.1.getD k 0 then ys ++ [trm (lowr k t.1, rat (t.2.2 * (t.1.getD k 0 : Rat)), t.2.2 * (t.1.getD k 0 : Rat))] else ys)])) :
    ∃ env', sFor (iSeq (mVar 0)) g body env0 (S ++ [dL []]) = .nx env' (S ++ [dL ((slU k l).map trm)]) ∧ e env' := by
  obtain ⟨env', st', h3, h4, h5⟩ := for_inv (mi := iSeq (mVar 0)) (src := .fix ((l.map trm).map .p)) (g := g) (b := body) (ds := (l.map trm).map .p) (env := env0) (st := S ++ [dL []]) (st1 := S ++ [dL []])
    (fun i env z => e env ∧ z = S ++ [dL ((slU k (l.take i)).map trm)]) hs ⟨h0, rfl⟩ (fun _ _ _ _ => rfl) fun i d env z hx ⟨e1, e2⟩ => by
      rw [List.map_map, List.getElem?_map] at hx
      cases hi : l[i]? with
      | none => rw [hi] at hx; cases hx
      | some t =>
        rw [hi] at hx
        cases hx
        have hlen : ((slU k (l.take i)).map trm).length ≤ 1000000 := by
          rw [List.length_map]
          have := slU_len k (l.take i)
          rw [List.length_take] at this
          omega
        obtain ⟨env1, env2, g1, g2, g3⟩ := hb t (List.mem_of_getElem? hi) env _ e1 hlen
        subst e2
        refine ⟨env1, g1, env2, _, .inl g3, g2, ?_⟩
        rw [slU_take hi]
        by_cases q : 0 < t.1.getD k 0
        · rw [if_pos q, if_pos q, List.map_append]
          rfl
        · rw [if_neg q, if_neg q, List.append_nil]
  refine ⟨env', ?_, h4⟩
  rw [h3, h5]
  rw [show ((l.map trm).map D.p).length = l.length by simp, List.take_length]
theorem sl_ret {gath : List D → M D} {N : List Str} {LP : MS} {x r : PyData} {k : Nat} {st : Sto} {rest : List (Option D)} {e : Env' → Prop} {ys : List PyData} (hN : env0 N [.p x, .p (.int k)] = some (.p x) :: some (.p (.int k)) :: none :: rest)
    (h1 : ∃ env', LP (some (.p x) :: some (.p (.int k)) :: some (.loc st.length) :: rest) (st ++ [dL []]) = .nx env' (st ++ [dL ys]) ∧ env'[2]? = some (some (.loc st.length)))
    (h2 : gath [.loc st.length] (st ++ [dL ys]) = .ok (.p r) (st ++ [dL ys])) : fnDen N (sSeq (sAsg (.nm 2) (mL (aNil) gMutD)) (sSeq LP (sSeq (sRet (mCall (aCons (mVar 2) (aNil)) (sized 1 gath))) (sNil)))) [.p x, .p (.int k)] st = .ok (.p r) st := by
  obtain ⟨env', g1, g2⟩ := h1
  rw [dL_nil] at g1
  rw [ev_fnDen, hN]
  simp [g1, g2, h2]
theorem g_lslope {n w T e k : Nat} {d : PyData} {p : Po.P} (h : Pg n w T d p) (hd : Dg e p) (he : e ≤ 1000) (hk : k < n) (hn2 : n ≤ 1000) (hw : w + 30 ≤ 990) (hT : T ≤ 1000000) (st : Sto) : ∃ r, φ__law_slope [.p d, .p (.int k)] st = .ok (.p r) st ∧ Pg n (w + 30) T r (Po.D k p) := by
  obtain ⟨l, hl, rfl, hlT, rfl⟩ := h
  have hle : ∀ t ∈ l, t.1.getD k 0 ≤ 1000 := fun t ht => by have := Dg.le hl hd t ht k; omega
  have hb := pow_lt (w := w) (by omega)
  obtain ⟨env', g1, g2⟩ := sl_loop (by' := φ__law_by) (n := n) (k := k) (S := st) (body := bSl φ__law_by) (g := .tp (.cons (.nm 3) (.cons (.nm 4) .nil))) (e := fun env => ∃ o3 o4, env = [some (.p (.tuple (l.map trm))), some (.p (.int k)), some (.loc st.length), o3, o4]) (env0 := [some (.p (.tuple (l.map trm))), some (.p (.int k)), some (.loc st.length), none, none]) (by omega) (iSeq_tup rfl) ⟨none, none, rfl⟩ fun t ht env ys ⟨o3, o4, e1⟩ hy => by
      have o := hl.ok t ht
      have hby : 0 < t.1.getD k 0 → φ__law_by [.p t.2.1, .p (.tuple [.int (t.1.getD k 0), .int 1])] (st ++ [dL ys]) = .ok (.p (rat (t.2.2 * (t.1.getD k 0 : Rat)))) (st ++ [dL ys]) := fun q => e_lby o.isr (isr_i _) (o.sz.nb hb.1 hb.2) ((sz_nat (by omega) (hle t ht)).nb (N := 4000) (Nat.pow_lt_pow_right (by decide) (by decide)) (Nat.one_lt_pow (by decide) (by decide))) (by decide)
      subst e1
      exact ⟨_, _, by simp [trm], ⟨_, _, rfl⟩, sl_core (by rw [o.len]; exact hk) (by rw [o.len]; exact hn2) hy hby⟩
  obtain ⟨o3, o4, e1⟩ := g2
  obtain ⟨r, g3, g4⟩ := g_gather (st := st ++ [dL ((slU k l).map trm)]) (d := .loc st.length) (T := T) (n := n) (.inr (.inr ⟨_, rfl, get_last⟩)) (by omega) (slU_ok hk hl.ok hle) (by have := slU_len k l; omega) hT (by omega)
  refine ⟨r, sl_ret (e := fun _ => True) rfl ⟨env', g1, by rw [e1]; rfl⟩ g3, ?_⟩
  rw [slU_cls hk fun t ht => ⟨(hl.ok t ht).len, (hl.ok t ht).nn⟩] at g4
  exact g4
end Q
set_option Elab.async false
set_option linter.all false
set_option maxRecDepth 100000
set_option maxHeartbeats 4000000
set_option exponentiation.threshold 20000
namespace Q
open PySem PySem.Spec Fw
open L2 (Key)
/-! the program's slope -/
theorem nums_range (l : List Int) : nums (l.map PyData.int) = (List.range l.length).map fun (j : Nat) => D.p (.tuple [.int j, .int (l.getD j 0)]) := by
  unfold nums
  apply List.ext_getElem
  · simp
  · intro i h1 h2
    simp at h1 h2
    simp [h1, List.getD_eq_getElem?_getD]
theorem lowr_range {k : Nat} (l : List Int) : ((List.range l.length).map fun (j : Nat) => PyData.int (if j = k then l.getD j 0 - 1 else l.getD j 0)) = (lowr k l).map PyData.int := by
  apply List.ext_getElem
  · simp [lowr]
  · intro i h1 h2
    simp at h1
    simp only [List.getElem_map, List.getElem_range, lowr, List.getElem_set]
    by_cases q : i = k
    · subst q
      simp
    · rw [if_neg q, if_neg (Ne.symm q), List.getD_eq_getElem?_getD, List.getElem?_eq_getElem h1]
      rfl
abbrev eSp (x : PyData) (k N : Nat) (a b : PyData) (o5 : Option D) : Env' := [some (.p x), some (.p (.int k)), some (.loc N), some (.p a), some (.p b), o5, none, none]
def cLow : Env' → M D := mComp false (iArgs (aCons (mVar 3) (aNil)) enum1) (.tp (.cons (.nm 6) (.cons (.nm 7) .nil))) [6, 7] (tTr) (mIf (tB (m2 (mVar 6) (mVar 1) (lift2 3 eqP))) (m2 (mVar 7) (mC (.int 1)) (lift2 1 subP)) (mVar 7))
theorem e_cLow {x b : PyData} {k N : Nat} {l : List Int} {o5 : Option D} (hl : l.length ≤ 1000) (st : Sto) : cLow (eSp x k N (tupI l) b o5) st = .ok (.p (.list ((lowr k l).map PyData.int))) st := by
  have := comp_all (mi := iArgs (aCons (mVar 3) (aNil)) enum1) (own := [6, 7]) (g := .tp (.cons (.nm 6) (.cons (.nm 7) .nil))) (m := mIf (tB (m2 (mVar 6) (mVar 1) (lift2 3 eqP))) (m2 (mVar 7) (mC (.int 1)) (lift2 1 subP)) (mVar 7)) (env := eSp x k N (tupI l) b o5) (st := st) (st0 := st) (xs := List.range l.length) (e := fun (j : Nat) => .tuple [.int j, .int (l.getD j 0)]) (h := fun j => .int (if j = k then l.getD j 0 - 1 else l.getD j 0))
    (by rw [src_enum (xs := l.map PyData.int) (st1 := st) (by simp [eSp, tupI]), nums_range]) (by rw [List.length_range]; omega) fun j _ => by
      have e : ((j : Int) == (k : Int)) = decide (j = k) := by
        by_cases z : j = k
        · subst z; simp
        · have : (j : Int) ≠ (k : Int) := by omega
          simp [z, this]
      refine turn_all (env1 := [some (.p x), some (.p (.int k)), some (.loc N), some (.p (tupI l)), some (.p b), o5, some (.p (.int j)), some (.p (.int (l.getD j 0)))]) (by simp [eSp, wipeE]) ?_
      generalize l.getD j 0 = i at *
      by_cases z : j = k
      · simp [e, z]
      · simp [e, z]
  rw [lowr_range] at this
  exact this
def bSp (mul of' : List D → M D) (CC : Env' → M D) : MS := sSeq (sIf (tB (m2 (m2 (mVar 3) (mVar 1) ixG) (mC (.int 0)) (lift2 3 gtP))) (sSeq (sAsg (.nm 5) (mL (aCons CC (aNil)) (gL1 (lift1 1 tupP))))
    (sSeq (sExp (mMth (mVar 2) (aCons (mL (aCons (mVar 5) (aCons (mCall (aCons (mVar 4) (aCons (mCall (aCons (m2 (mVar 3) (mVar 1) ixG) (aNil)) (sized 1 of')) (aNil))) (sized 2 mul)) (aNil))) gTupD) (aNil)) appendG))
    (sNil))) (sNil))
    (sNil)
theorem sp_core {mul of' : List D → M D} {CC : Env' → M D} {x b r y : PyData} {k : Nat} {l : List Int} {S : Sto} {ys : List PyData} {o5 : Option D} (hk : k < l.length) (hy : ys.length ≤ 1000000) (hc : CC (eSp x k S.length (tupI l) b o5) (S ++ [dL ys]) = .ok (.p (.list ((lowr k l).map PyData.int))) (S ++ [dL ys]))
    (ho : of' [.p (.int (l.getD k 0))] (S ++ [dL ys]) = .ok (.p y) (S ++ [dL ys])) (h : 0 < l.getD k 0 → mul [.p b, .p y] (S ++ [dL ys]) = .ok (.p r) (S ++ [dL ys])) :
    ∃ o5', bSp mul of' CC (eSp x k S.length (tupI l) b o5) (S ++ [dL ys]) = .nx (eSp x k S.length (tupI l) b o5') (S ++ [dL (if 0 < l.getD k 0 then ys ++ [.tuple [tupI (lowr k l), r]] else ys)]) := by
  have i1 := fun st => ix_tupI (st := st) hk
  by_cases q : 0 < l.getD k 0
  · have hr := h q
    rw [if_pos q]
    have ha := dL_app (st := S) (r := []) (xs := ys) (x := .tuple [.tuple ((lowr k l).map PyData.int), r]) hy
    have hi := dL_lst (st := S) (r := []) (xs := ys)
    refine ⟨some (.p (.tuple ((lowr k l).map PyData.int))), ?_⟩
    unfold eSp tupI at hc
    unfold tupI at i1
    unfold tupI
    generalize (lowr k l).map PyData.int = z at *
    generalize l.getD k 0 = i at *
    generalize l.map PyData.int = y at *
    simp [bSp, eSp, i1, q, hi, hc, hr, ho, ha]
  · refine ⟨o5, ?_⟩
    rw [if_neg q]
    generalize l.getD k 0 = i at *
    simp [bSp, eSp, i1, q]
theorem sp_ret {gath : List D → M D} {N : List Str} {LP : MS} {x r : PyData} {k : Nat} {st : Sto} {rest : List (Option D)} {ys : List PyData} (hN : env0 N [.p x, .p (.int k)] = some (.p x) :: some (.p (.int k)) :: none :: rest)
    (h1 : ∃ env', LP (some (.p x) :: some (.p (.int k)) :: some (.loc st.length) :: rest) (st ++ [dL []]) = .nx env' (st ++ [dL ys]) ∧ env'[2]? = some (some (.loc st.length)))
    (h2 : gath [.loc st.length] (st ++ [dL ys]) = .ok (.p r) (st ++ [dL ys])) : fnDen N (sSeq (sAsg (.nm 2) (mL (aNil) gMutD)) (sSeq LP (sSeq (sRet (mCall (aCons (mVar 2) (aNil)) (sized 1 gath))) (sNil)))) [.p x, .p (.int k)] st = .ok (.p r) st := sl_ret (e := fun _ => True) hN h1 h2
theorem g_gathered {st : Sto} {n w T : Nat} {d : D} {l : List U} (hs : SrcD d st (l.map trm)) (hn : 1 ≤ n) (ht : ∀ t ∈ l, Okt n (2 ^ (4 * w)) w t) (hl : l.length ≤ T) (hT : T ≤ 1000000) (hw : w + 20 ≤ 990) : ∃ r, φ_gathered [d] st = .ok (.p r) st ∧ Pg n (w + 20) T r (Po.cls (mth l)) := by
  have hc : 2 ^ (4 * w) * l.length ≤ 2 ^ (4 * w + 20) := cT_le (Nat.le_trans (Nat.le_trans hl hT) (by decide))
  obtain ⟨r, h1, h2⟩ := e_gathered hs hn ht (Nat.lt_of_le_of_lt hc (Nat.pow_lt_pow_right (by decide) (by omega))) (pow_lt (by omega)).2 (by omega)
  exact ⟨r, h1, (Pg.of h2 hc).mono (Nat.le_refl _) hl⟩
theorem g_slope {n w T e k : Nat} {d : PyData} {p : Po.P} (h : Pg n w T d p) (hd : Dg e p) (he : e ≤ 1000) (hk : k < n) (hn2 : n ≤ 1000) (hw : w + 30 ≤ 990) (hT : T ≤ 1000000) (st : Sto) : ∃ r, φ_slope [.p d, .p (.int k)] st = .ok (.p r) st ∧ Pg n (w + 30) T r (Po.D k p) := by
  obtain ⟨l, hl, rfl, hlT, rfl⟩ := h
  have hle : ∀ t ∈ l, t.1.getD k 0 ≤ 1000 := fun t ht => by have := Dg.le hl hd t ht k; omega
  have hb := pow_lt (w := w) (by omega)
  obtain ⟨env', g1, g2⟩ := sl_loop (by' := φ__law_by) (n := n) (k := k) (S := st) (body := bSp φ_multiply_ratios φ_of cLow) (g := .tp (.cons (.nm 3) (.cons (.nm 4) .nil))) (e := fun env => ∃ o3 o4 o5, env = [some (.p (.tuple (l.map trm))), some (.p (.int k)), some (.loc st.length), o3, o4, o5, none, none]) (env0 := [some (.p (.tuple (l.map trm))), some (.p (.int k)), some (.loc st.length), none, none, none, none, none]) (by omega) (iSeq_tup rfl) ⟨none, none, none, rfl⟩ fun t ht env ys ⟨o3, o4, o5, e1⟩ hy => by
      have o := hl.ok t ht
      have hof := e_of (t.1.getD k 0) (st := st ++ [dL ys])
      have hby : 0 < t.1.getD k 0 → φ_multiply_ratios [.p t.2.1, .p (rat ((t.1.getD k 0 : Int) : Rat))] (st ++ [dL ys]) = .ok (.p (rat (t.2.2 * (t.1.getD k 0 : Rat)))) (st ++ [dL ys]) := fun q => e_mulR o.isr (IsR.rat _) (o.sz.nb hb.1 hb.2) ((sz_nat (by omega) (hle t ht)).nb (N := 4000) (Nat.pow_lt_pow_right (by decide) (by decide)) (Nat.one_lt_pow (by decide) (by decide))) (by decide)
      subst e1
      obtain ⟨o5', hsp⟩ := sp_core (x := .tuple (l.map trm)) (o5 := o5) (CC := cLow) (S := st) (ys := ys) (by rw [o.len]; exact hk) hy (e_cLow (by rw [o.len]; exact hn2) _) hof hby
      exact ⟨_, _, by simp [trm], ⟨_, _, _, rfl⟩, hsp⟩
  obtain ⟨o3, o4, o5, e1⟩ := g2
  obtain ⟨r, g3, g4⟩ := g_gathered (st := st ++ [dL ((slU k l).map trm)]) (d := .loc st.length) (T := T) (n := n) (.inr (.inr ⟨_, rfl, get_last⟩)) (by omega) (slU_ok hk hl.ok hle) (by have := slU_len k l; omega) hT (by omega)
  refine ⟨r, sl_ret (e := fun _ => True) rfl ⟨env', g1, by rw [e1]; rfl⟩ g3, ?_⟩
  rw [slU_cls hk fun t ht => ⟨(hl.ok t ht).len, (hl.ok t ht).nn⟩] at g4
  exact g4
end Q
set_option Elab.async false
set_option linter.all false
set_option maxRecDepth 100000
set_option maxHeartbeats 4000000
set_option exponentiation.threshold 20000
namespace Q
open PySem PySem.Spec Fw
open L2 (Key)
theorem Dg.Dt {e : Nat} {p : Po.P} (h : Dg e p) (k m : Nat) : Dg e (Po.Dt k m p) := by
  induction m with
  | zero => exact h
  | succ m ih => exact ih.D k
theorem Dg.Dm {e : Nat} {p : Po.P} (h : Dg e p) (n : Nat) (g : Po.G) : Dg e (Po.Dm n g p) := by
  induction n with
  | zero => exact h
  | succ n ih => exact ih.Dt n _
theorem range_get {s i : Nat} {x : D} (h : ((List.range s).map fun (j : Nat) => D.p (.int j))[i]? = some x) : i < s ∧ x = .p (.int i) := by
  rw [List.getElem?_map] at h
  cases hi : (List.range s)[i]? with
  | none => rw [hi] at h; cases h
  | some j =>
    rw [hi] at h
    obtain ⟨a, b⟩ := List.getElem?_eq_some_iff.mp hi
    simp at a b
    cases h
    subst b
    exact ⟨a, rfl⟩
/-! ## the law's acting -/
abbrev eAc (x y : PyData) (f : PyData) (o3 o4 : Option D) (part : Option D) (o6 o7 : Option D) : Env' := [some (.p x), some (.p y), some (.p f), o3, o4, part, o6, o7]
theorem ac_in {n w T e k m : Nat} {x y f part : PyData} {q : Po.P} {o3 o4 o7 : Option D} (h : Pg n w T part q) (hd : Dg e q) (he : e ≤ 1000) (hk : k < n) (hn2 : n ≤ 1000) (hw : w + 30 * m ≤ 990) (hT : T ≤ 1000000) {mi : Env' → M Src} (st : Sto) (hm : mi (eAc x y f o3 o4 (some (.p part)) (some (.p (.int k))) o7) st = .ok (.fix ((List.range m).map fun (j : Nat) => .p (.int j))) st) :
    ∃ r o7', sFor mi (.nm 7) (sSeq (sAsg (.nm 5) (mCall (aCons (mVar 5) (aCons (mVar 6) (aNil))) (sized 2 φ__law_slope)))
    (sNil)) (eAc x y f o3 o4 (some (.p part)) (some (.p (.int k))) o7) st = .nx (eAc x y f o3 o4 (some (.p r)) (some (.p (.int k))) o7') st ∧ Pg n (w + 30 * m) T r (Po.Dt k m q) := by
  obtain ⟨env', st', h3, r, o7', e1, e2, hP⟩ := for_inv (mi := mi) (g := .nm 7) (b := sSeq (sAsg (.nm 5) (mCall (aCons (mVar 5) (aCons (mVar 6) (aNil))) (sized 2 φ__law_slope)))
    (sNil)) (env := eAc x y f o3 o4 (some (.p part)) (some (.p (.int k))) o7) (st := st) (src := .fix ((List.range m).map fun (j : Nat) => .p (.int j)))
    (fun i env z => ∃ r o7, env = eAc x y f o3 o4 (some (.p r)) (some (.p (.int k))) o7 ∧ z = st ∧ Pg n (w + 30 * i) T r (Po.Dt k i q)) hm ⟨part, o7, rfl, rfl, h⟩ (fun _ _ _ _ => rfl) fun i x' env z hx ⟨r, o7, e1, e2, hP⟩ => by
      obtain ⟨him, rfl⟩ := range_get hx
      subst e1 e2
      obtain ⟨r', g1, g2⟩ := g_lslope hP (hd.Dt k i) he hk hn2 (by omega) hT z
      exact ⟨eAc x y f o3 o4 (some (.p r)) (some (.p (.int k))) (some (.p (.int i))), by simp [eAc], eAc x y f o3 o4 (some (.p r')) (some (.p (.int k))) (some (.p (.int i))), z, .inl (by simp [eAc, g1]), r', _, rfl, rfl, g2.mono (by omega) (Nat.le_refl _)⟩
  rw [e1, e2] at h3
  rw [show (List.map (fun (j : Nat) => D.p (.int j)) (List.range m)).length = m by simp] at hP
  exact ⟨r, o7', h3, hP⟩
theorem nat_at {l : List Int} (h : ∀ i ∈ l, 0 ≤ i) (k : Nat) : l.getD k 0 = (((fnE l k).toNat : Nat) : Int) := by
  have : 0 ≤ l.getD k 0 := by
    rw [List.getD_eq_getElem?_getD]
    cases q : l[k]? with
    | none => exact Int.le_refl _
    | some x => exact h x (List.mem_of_getElem? q)
  show l.getD k 0 = (((l.getD k 0).toNat : Nat) : Int)
  omega
theorem ac_mid {n w T e b : Nat} {x y f part : PyData} {q : Po.P} {key : List Int} {o4 o6 o7 : Option D} (h : Pg n w T part q) (hd : Dg e q) (he : e ≤ 1000) (hkl : key.length = n) (h0 : ∀ i ∈ key, 0 ≤ i) (hb : ∀ k, key.getD k 0 ≤ (b : Int)) (hn2 : n ≤ 1000) (hb2 : b ≤ 1000) (hw : w + 30 * b * n ≤ 990) (hT : T ≤ 1000000) (st : Sto) :
    ∃ r o6' o7', sFor (iArgs (aCons (mL (aCons (mVar 3) (aNil)) (gL1 lenG)) (aNil)) rng1) (.nm 6) (sSeq (sFor (iArgs (aCons (m2 (mVar 3) (mVar 6) ixG) (aNil)) rng1) (.nm 7) (sSeq (sAsg (.nm 5) (mCall (aCons (mVar 5) (aCons (mVar 6) (aNil))) (sized 2 φ__law_slope)))
    (sNil)))
    (sNil)) (eAc x y f (some (.p (tupI key))) o4 (some (.p part)) o6 o7) st = .nx (eAc x y f (some (.p (tupI key))) o4 (some (.p r)) o6' o7') st ∧ Pg n (w + 30 * b * n) T r (Po.Dm n (fnE key) q) := by
  obtain ⟨env', st', h3, r, o6', o7', e1, e2, hP⟩ := for_inv (mi := iArgs (aCons (mL (aCons (mVar 3) (aNil)) (gL1 lenG)) (aNil)) rng1) (g := .nm 6) (b := sSeq (sFor (iArgs (aCons (m2 (mVar 3) (mVar 6) ixG) (aNil)) rng1) (.nm 7) (sSeq (sAsg (.nm 5) (mCall (aCons (mVar 5) (aCons (mVar 6) (aNil))) (sized 2 φ__law_slope)))
    (sNil)))
    (sNil)) (env := eAc x y f (some (.p (tupI key))) o4 (some (.p part)) o6 o7) (st := st) (src := .fix ((List.range n).map fun (j : Nat) => .p (.int j)))
    (fun i env z => ∃ r o6 o7, env = eAc x y f (some (.p (tupI key))) o4 (some (.p r)) o6 o7 ∧ z = st ∧ Pg n (w + 30 * b * i) T r (Po.Dm i (fnE key) q)) (src_rng (n := n) (by simp [eAc, tupI, hkl]) (by omega)) ⟨part, o6, o7, rfl, rfl, h⟩ (fun _ _ _ _ => rfl) fun i x' env z hx ⟨r, o6, o7, e1, e2, hP⟩ => by
      obtain ⟨him, rfl⟩ := range_get hx
      subst e1 e2
      have i1 := fun st => ix_tupI (st := st) (a := key) (j := i) (by omega)
      have hna := nat_at h0 i
      have hbi := hb i
      rw [hna] at hbi
      simp only [hna] at i1
      generalize hm : (fnE key i).toNat = m at *
      have hmb : m ≤ b := by omega
      have h30 : 30 * b * (i + 1) = 30 * b * i + 30 * b := by rw [Nat.mul_add, Nat.mul_one]
      have hle : 30 * b * (i + 1) ≤ 30 * b * n := Nat.mul_le_mul_left _ (by omega)
      obtain ⟨r', o7', g1, g2⟩ := ac_in (m := m) (x := x) (y := y) (f := f) (o3 := some (.p (tupI key))) (o4 := o4) (o7 := o7) (mi := iArgs (aCons (m2 (mVar 3) (mVar 6) ixG) (aNil)) rng1) hP (hd.Dm i _) he him hn2 (by omega) hT z (src_rng (n := m) (by simp [eAc, i1]) (by omega))
      refine ⟨eAc x y f (some (.p (tupI key))) o4 (some (.p r)) (some (.p (.int i))) o7, by simp [eAc], eAc x y f (some (.p (tupI key))) o4 (some (.p r')) (some (.p (.int i))) o7', z, .inl ?_, r', _, _, rfl, rfl, ?_⟩
      · rw [ev_sSeq, g1]
        rfl
      · rw [Po.Dm, hm]
        exact g2.mono (by omega) (Nat.le_refl _)
  rw [e1, e2] at h3
  rw [show (List.map (fun (j : Nat) => D.p (.int j)) (List.range n)).length = n by simp] at hP
  exact ⟨r, o6', o7', h3, hP⟩
theorem ac_core {LP : MS} {sc tot : List D → M D} {x y f a b part s f' : PyData} {o5 o6 o7 o6' o7' : Option D} {st : Sto} (h1 : LP (eAc x y f (some (.p a)) (some (.p b)) (some (.p y)) o6 o7) st = .nx (eAc x y f (some (.p a)) (some (.p b)) (some (.p part)) o6' o7') st) (h2 : sc [.p b, .p part] st = .ok (.p s) st) (h3 : tot [.p f, .p s] st = .ok (.p f') st) :
    sSeq (sAsg (.nm 5) (mVar 1)) (sSeq LP (sSeq (sAsg (.nm 2) (mCall (aCons (mVar 2) (aCons (mCall (aCons (mVar 4) (aCons (mVar 5) (aNil))) (sized 2 sc)) (aNil))) (sized 2 tot))) (sNil))) (eAc x y f (some (.p a)) (some (.p b)) o5 o6 o7) st = .nx (eAc x y f' (some (.p a)) (some (.p b)) (some (.p part)) o6' o7') st := by
  unfold eAc at h1 ⊢
  simp [h1, h2, h3]
theorem ac_ret {LP : MS} {x y f : PyData} {st : Sto} {o3 o4 o5 o6 o7 : Option D} (h : LP (eAc x y (.tuple []) none none none none none) st = .nx (eAc x y f o3 o4 o5 o6 o7) st) : fnDen N__law_acted (sSeq (sAsg (.nm 2) (mL (aNil) gTupD)) (sSeq LP (sSeq (sRet (mVar 2)) (sNil)))) [.p x, .p y] st = .ok (.p f) st := by
  unfold eAc at h
  simp [N__law_acted, h]
theorem mth_take {l : List U} {i : Nat} {t : U} (h : l[i]? = some t) : mth (l.take (i + 1)) = mth (l.take i) ++ [(fnE t.1, t.2.2)] := by
  rw [List.take_add_one, h, mth_append]
  rfl
theorem Act_snoc (n : Nat) (l : Po.L) (t : Po.G × Rat) (q : Po.P) : Po.ActL n (l ++ [t]) q = Po.ActL n l q + Po.C t.2 * Po.Dm n t.1 q := by
  rw [Po.Act_append]
  show _ + (Po.C t.2 * Po.Dm n t.1 q + 0) = _
  grind
/-- the law's acting: the sum over the first polynomial's terms -/
theorem g_lacted {n w1 w T1 T e b : Nat} {x y : PyData} {p q : Po.P} (hx : Pg n w1 T1 x p) (hy : Pg n w T y q) (hd : Dg e q) (hp : Dg b p) (he : e ≤ 1000) (hn : 1 ≤ n) (hn2 : n ≤ 1000) (hb2 : b ≤ 1000) (hw : w1 + w + 30 * b * n + 20 + 20 * T1 ≤ 990) (hT : T1 * T ≤ 900000) (hTT : T ≤ 900000) (st : Sto) :
    ∃ r l, φ__law_acted [.p x, .p y] st = .ok (.p r) st ∧ Pg n (w1 + w + 30 * b * n + 20 + 20 * T1) (T1 * T) r (Po.ActL n (mth l) q) ∧ Po.cls (mth l) = p ∧ (∀ t ∈ l, t.1.length = n ∧ ∀ i ∈ t.1, 0 ≤ i) := by
  obtain ⟨l, hl, rfl, hlT, rfl⟩ := hx
  have hle : ∀ t ∈ l, ∀ j, t.1.getD j 0 ≤ (b : Int) := Dg.le hl hp
  obtain ⟨env', st', h3, f, o3, o4, o5, o6, o7, e1, e2, hP⟩ := for_inv (mi := iSeq (mVar 0)) (src := .fix ((l.map trm).map .p)) (g := .tp (.cons (.nm 3) (.cons (.nm 4) .nil))) (b := sSeq (sAsg (.nm 5) (mVar 1)) (sSeq (sFor (iArgs (aCons (mL (aCons (mVar 3) (aNil)) (gL1 lenG)) (aNil)) rng1) (.nm 6) (sSeq (sFor (iArgs (aCons (m2 (mVar 3) (mVar 6) ixG) (aNil)) rng1) (.nm 7) (sSeq (sAsg (.nm 5) (mCall (aCons (mVar 5) (aCons (mVar 6) (aNil))) (sized 2 φ__law_slope)))
    (sNil)))
    (sNil))) (sSeq (sAsg (.nm 2) (mCall (aCons (mVar 2) (aCons (mCall (aCons (mVar 4) (aCons (mVar 5) (aNil))) (sized 2 φ__law_scaled)) (aNil))) (sized 2 φ__law_total))) (sNil)))) (ds := (l.map trm).map .p) (env := eAc (.tuple (l.map trm)) y (.tuple []) none none none none none) (st := st) (st1 := st)
    (fun i env z => ∃ f o3 o4 o5 o6 o7, env = eAc (.tuple (l.map trm)) y f o3 o4 o5 o6 o7 ∧ z = st ∧ Pg n (w1 + w + 30 * b * n + 20 + 20 * i) (i * T) f (Po.ActL n (mth (l.take i)) q)) (iSeq_tup rfl) ⟨_, none, none, none, none, none, rfl, rfl, by rw [List.take_zero]; exact nil_poly.mono (Nat.le_refl _) (by omega)⟩ (fun _ _ _ _ => rfl) fun i d env z hx ⟨f, o3, o4, o5, o6, o7, e1, e2, hP⟩ => by
      rw [List.map_map, List.getElem?_map] at hx
      cases hi : l[i]? with
      | none => rw [hi] at hx; cases hx
      | some t =>
        rw [hi] at hx
        cases hx
        have htm := List.mem_of_getElem? hi
        have hil : i < l.length := (List.getElem?_eq_some_iff.mp hi).1
        have o := hl.ok t htm
        subst e1 e2
        have hexp : (i + 1) * T = i * T + T := by rw [Nat.add_mul, Nat.one_mul]
        have hle2 : (i + 1) * T ≤ T1 * T := Nat.mul_le_mul_right _ (by omega)
        obtain ⟨part, o6', o7', g1, g2⟩ := ac_mid (x := .tuple (l.map trm)) (y := y) (f := f) (o4 := some (.p t.2.1)) (o6 := o6) (o7 := o7) hy hd he o.len o.nn (hle t htm) hn2 hb2 (by omega) (by omega) z
        obtain ⟨s, g3, g4⟩ := g_lscaled o.isr o.sz g2 hn (by omega) (by omega) z
        obtain ⟨f', g5, g6⟩ := g_ltotal hP (g4.mono (w' := w1 + w + 30 * b * n + 20 + 20 * i) (by omega) (Nat.le_refl _)) hn (by omega) (by omega) z
        refine ⟨eAc (.tuple (l.map trm)) y f (some (.p (tupI t.1))) (some (.p t.2.1)) o5 o6 o7, by simp [eAc, trm], _, z, .inl (ac_core g1 g3 g5), f', _, _, _, _, _, rfl, rfl, ?_⟩
        rw [mth_take hi, Act_snoc, hexp]
        exact g6.mono (by omega) (Nat.le_refl _)
  rw [e1, e2] at h3
  rw [show ((l.map trm).map D.p).length = l.length by simp, List.take_length] at hP
  exact ⟨f, l, ac_ret h3, hP.mono (by omega) (Nat.mul_le_mul_right _ hlT), rfl, fun t ht => ⟨(hl.ok t ht).len, (hl.ok t ht).nn⟩⟩
end Q
set_option Elab.async false
set_option linter.all false
set_option maxRecDepth 100000
set_option maxHeartbeats 4000000
set_option exponentiation.threshold 20000
namespace Q
open PySem PySem.Spec Fw
open L2 (Key)
/-! ## a number times a polynomial, the program's -/
theorem scU_nz {s : Rat} {l : List U} (hs : s ≠ 0) (h : ∀ t ∈ l, t.2.2 ≠ 0) : ∀ t ∈ scU s l, t.2.2 ≠ 0 := fun t ht => by
  obtain ⟨u, hu, rfl⟩ := List.mem_map.mp ht
  intro e
  rcases Rat.mul_eq_zero.mp e with z | z
  · exact hs z
  · exact h u hu z
theorem g_scaled {w w' T n : Nat} {b : PyData} {q : Po.P} {x : PyData} {s : Rat} (hx : IsR x s) (hs : Sz (2 ^ (4 * w)) w s) (hb : Pg n w' T b q) (hw : w + w' ≤ 990) (hT : T ≤ 1000000) (st : Sto) : ∃ r, φ_scaled [.p x, .p b] st = .ok (.p r) st ∧ Pg n (w + w') T r (Po.C s * q) := by
  obtain ⟨l, hl, rfl, hlT, rfl⟩ := hb
  have hz := eqP_zero hx
  by_cases h0 : s = 0
  · subst h0
    refine ⟨.tuple [], ?_, ?_⟩
    · simp [φ_scaled, N_scaled, m_scaled, hz]
    · have e : Po.C 0 * Po.cls (mth l) = 0 := Po.C_zero_mul _
      rw [e]
      exact nil_poly.mono (Nat.le_refl _) (by omega)
  · have ok := scale_ok hs hl.ok
    have e : 2 ^ (4 * w) * 2 ^ (4 * w') = 2 ^ (4 * (w + w')) := by rw [← Nat.pow_add]; congr 1; omega
    rw [e] at ok
    have b1 := pow_lt (w := w) (by omega)
    have b2 := pow_lt (w := w') (by omega)
    have hc := comp_terms (i := 1) (j1 := 2) (j2 := 3) (m := mL (aCons (mVar 2) (aCons (mCall (aCons (mVar 0) (aCons (mVar 3) (aNil))) (sized 2 φ_multiply_ratios)) (aNil))) gTupD) (env := [some (.p x), some (.p (.tuple (l.map trm))), none, none]) (st := st) (l := l) (f := fun t => (t.1, rat (s * t.2.2), s * t.2.2)) (e1 := fun t => [some (.p x), some (.p (.tuple (l.map trm))), some (.p (tupI t.1)), some (.p t.2.1)]) rfl (by omega) (fun t => by simp [wipeE, trm]) fun t ht => by
      have h1 := e_mulR (st := st) hx (hl.ok t ht).isr (hs.nb b1.1 b1.2) ((hl.ok t ht).sz.nb b2.1 b2.2) (by decide)
      clear b1 b2
      simp [h1, trm]
    refine ⟨.tuple ((scU s l).map trm), ?_, scU s l, ⟨ok, scU_nz h0 hl.nz, ?_⟩, rfl, by unfold scU; rw [List.length_map]; exact hlT, scU_mth s l⟩
    · clear b1 b2
      have hu : (l.map fun t => ((t.1, rat (s * t.2.2), s * t.2.2) : U)) = scU s l := rfl
      rw [hu] at hc
      generalize (scU s l).map trm = ys at *
      simp [φ_scaled, N_scaled, m_scaled, hz, h0, hc]
    · unfold scU
      rw [keys_map (f := fun t : U => (t.1, rat (s * t.2.2), s * t.2.2)) fun t => rfl]
      exact hl.desc
/-! ## acting by slopes -/
theorem e_check_poly {d : PyData} {p : Po.P} {n w T : Nat} (h : Pg n w T d p) (hn : 1 ≤ n) (hn2 : n ≤ 1000) (hw : w ≤ 990) (hT : T ≤ 1000000) (st : Sto) : φ_check_poly [.p d, .p (.int n)] st = .ok (.p .none) st := by
  have := e_ispoly h hn hn2 hw hT st
  simp [φ_check_poly, N_check_poly, m_check_poly, this]
abbrev eBs (x y : PyData) (n : Nat) (f : PyData) (o4 o5 : Option D) (part : Option D) (o7 o8 o9 : Option D) : Env' := [some (.p x), some (.p y), some (.p (.int n)), some (.p f), o4, o5, part, o7, o8, o9]
theorem bs_in {n w T e k m : Nat} {x y f part : PyData} {q : Po.P} {o4 o5 o9 : Option D} (h : Pg n w T part q) (hd : Dg e q) (he : e ≤ 1000) (hk : k < n) (hn2 : n ≤ 1000) (hw : w + 30 * m ≤ 990) (hT : T ≤ 1000000) (hm : m ≤ 1000) (st : Sto) :
    ∃ r o9', sFor (iArgs (aCons (mVar 8) (aNil)) rng1) (.nm 9) (sSeq (sAsg (.nm 6) (mCall (aCons (mVar 6) (aCons (mVar 7) (aNil))) (sized 2 φ_slope)))
    (sNil)) (eBs x y n f o4 o5 (some (.p part)) (some (.p (.int k))) (some (.p (.int m))) o9) st = .nx (eBs x y n f o4 o5 (some (.p r)) (some (.p (.int k))) (some (.p (.int m))) o9') st ∧ Pg n (w + 30 * m) T r (Po.Dt k m q) := by
  obtain ⟨env', st', h3, r, o9', e1, e2, hP⟩ := for_inv (mi := iArgs (aCons (mVar 8) (aNil)) rng1) (g := .nm 9) (b := sSeq (sAsg (.nm 6) (mCall (aCons (mVar 6) (aCons (mVar 7) (aNil))) (sized 2 φ_slope)))
    (sNil)) (env := eBs x y n f o4 o5 (some (.p part)) (some (.p (.int k))) (some (.p (.int m))) o9) (st := st) (src := .fix ((List.range m).map fun (j : Nat) => .p (.int j)))
    (fun i env z => ∃ r o9, env = eBs x y n f o4 o5 (some (.p r)) (some (.p (.int k))) (some (.p (.int m))) o9 ∧ z = st ∧ Pg n (w + 30 * i) T r (Po.Dt k i q)) (src_rng (n := m) (by simp [eBs]) (by omega)) ⟨part, o9, rfl, rfl, h⟩ (fun _ _ _ _ => rfl) fun i x' env z hx ⟨r, o9, e1, e2, hP⟩ => by
      obtain ⟨him, rfl⟩ := range_get hx
      subst e1 e2
      obtain ⟨r', g1, g2⟩ := g_slope hP (hd.Dt k i) he hk hn2 (by omega) hT z
      exact ⟨eBs x y n f o4 o5 (some (.p r)) (some (.p (.int k))) (some (.p (.int m))) (some (.p (.int i))), by simp [eBs], eBs x y n f o4 o5 (some (.p r')) (some (.p (.int k))) (some (.p (.int m))) (some (.p (.int i))), z, .inl (by simp [eBs, g1]), r', _, rfl, rfl, g2.mono (by omega) (Nat.le_refl _)⟩
  rw [e1, e2] at h3
  rw [show (List.map (fun (j : Nat) => D.p (.int j)) (List.range m)).length = m by simp] at hP
  exact ⟨r, o9', h3, hP⟩
theorem bs_mid {n w T e b : Nat} {x y f part : PyData} {q : Po.P} {key : List Int} {o5 o7 o8 o9 : Option D} (h : Pg n w T part q) (hd : Dg e q) (he : e ≤ 1000) (hkl : key.length = n) (h0 : ∀ i ∈ key, 0 ≤ i) (hb : ∀ k, key.getD k 0 ≤ (b : Int)) (hn2 : n ≤ 1000) (hb2 : b ≤ 1000) (hw : w + 30 * b * n ≤ 990) (hT : T ≤ 1000000) (st : Sto) :
    ∃ r o7' o8' o9', sFor (iArgs (aCons (mVar 4) (aNil)) enum1) (.tp (.cons (.nm 7) (.cons (.nm 8) .nil))) (sSeq (sFor (iArgs (aCons (mVar 8) (aNil)) rng1) (.nm 9) (sSeq (sAsg (.nm 6) (mCall (aCons (mVar 6) (aCons (mVar 7) (aNil))) (sized 2 φ_slope)))
    (sNil)))
    (sNil)) (eBs x y n f (some (.p (tupI key))) o5 (some (.p part)) o7 o8 o9) st = .nx (eBs x y n f (some (.p (tupI key))) o5 (some (.p r)) o7' o8' o9') st ∧ Pg n (w + 30 * b * n) T r (Po.Dm n (fnE key) q) := by
  obtain ⟨env', st', h3, r, o7', o8', o9', e1, e2, hP⟩ := for_inv (mi := iArgs (aCons (mVar 4) (aNil)) enum1) (g := .tp (.cons (.nm 7) (.cons (.nm 8) .nil))) (b := sSeq (sFor (iArgs (aCons (mVar 8) (aNil)) rng1) (.nm 9) (sSeq (sAsg (.nm 6) (mCall (aCons (mVar 6) (aCons (mVar 7) (aNil))) (sized 2 φ_slope)))
    (sNil)))
    (sNil)) (env := eBs x y n f (some (.p (tupI key))) o5 (some (.p part)) o7 o8 o9) (st := st) (src := .fix (nums (key.map PyData.int))) (ds := nums (key.map PyData.int))
    (fun i env z => ∃ r o7 o8 o9, env = eBs x y n f (some (.p (tupI key))) o5 (some (.p r)) o7 o8 o9 ∧ z = st ∧ Pg n (w + 30 * b * i) T r (Po.Dm i (fnE key) q)) (src_enum (by simp [eBs, tupI])) ⟨part, o7, o8, o9, rfl, rfl, h⟩ (fun _ _ _ _ => rfl) fun i x' env z hx ⟨r, o7, o8, o9, e1, e2, hP⟩ => by
      obtain ⟨d, hd2, rfl⟩ := nums_get hx
      rw [List.getElem?_map] at hd2
      cases hk : key[i]? with
      | none => rw [hk] at hd2; cases hd2
      | some v =>
        rw [hk] at hd2
        cases hd2
        have him : i < n := by rw [← hkl]; exact (List.getElem?_eq_some_iff.mp hk).1
        have hv : key.getD i 0 = v := by rw [List.getD_eq_getElem?_getD, hk]; rfl
        have hna := nat_at h0 i
        have hbi := hb i
        rw [hna] at hbi
        rw [hv] at hna
        generalize hm : (fnE key i).toNat = m at *
        subst hna
        subst e1 e2
        have hmb : m ≤ b := by omega
        have h30 : 30 * b * (i + 1) = 30 * b * i + 30 * b := by rw [Nat.mul_add, Nat.mul_one]
        have hle : 30 * b * (i + 1) ≤ 30 * b * n := Nat.mul_le_mul_left _ (by omega)
        obtain ⟨r', o9', g1, g2⟩ := bs_in (m := m) (x := x) (y := y) (f := f) (o4 := some (.p (tupI key))) (o5 := o5) (o9 := o9) hP (hd.Dm i _) he him hn2 (by omega) hT (by omega) z
        refine ⟨eBs x y n f (some (.p (tupI key))) o5 (some (.p r)) (some (.p (.int i))) (some (.p (.int m))) o9, by simp [eBs], eBs x y n f (some (.p (tupI key))) o5 (some (.p r')) (some (.p (.int i))) (some (.p (.int m))) o9', z, .inl ?_, r', _, _, _, rfl, rfl, ?_⟩
        · rw [ev_sSeq, g1]
          rfl
        · rw [Po.Dm, hm]
          exact g2.mono (by omega) (Nat.le_refl _)
  rw [e1, e2] at h3
  rw [nums_len, List.length_map, hkl] at hP
  exact ⟨r, o7', o8', o9', h3, hP⟩
theorem bs_core {LP : MS} {sc tot : List D → M D} {x y f a b part s f' : PyData} {n : Nat} {o6 o7 o8 o9 o7' o8' o9' : Option D} {st : Sto} (h1 : LP (eBs x y n f (some (.p a)) (some (.p b)) (some (.p y)) o7 o8 o9) st = .nx (eBs x y n f (some (.p a)) (some (.p b)) (some (.p part)) o7' o8' o9') st) (h2 : sc [.p b, .p part] st = .ok (.p s) st) (h3 : tot [.p f, .p s] st = .ok (.p f') st) :
    sSeq (sAsg (.nm 6) (mVar 1)) (sSeq LP (sSeq (sAsg (.nm 3) (mCall (aCons (mVar 3) (aCons (mCall (aCons (mVar 5) (aCons (mVar 6) (aNil))) (sized 2 sc)) (aNil))) (sized 2 tot))) (sNil))) (eBs x y n f (some (.p a)) (some (.p b)) o6 o7 o8 o9) st = .nx (eBs x y n f' (some (.p a)) (some (.p b)) (some (.p part)) o7' o8' o9') st := by
  unfold eBs at h1 ⊢
  simp [h1, h2, h3]
theorem bs_ret {LP : MS} {chk : List D → M D} {x y f : PyData} {n : Nat} {st : Sto} {o4 o5 o6 o7 o8 o9 : Option D} (hc : chk [.p x, .p (.int n)] st = .ok (.p .none) st) (h : LP (eBs x y n (.tuple []) none none none none none none) st = .nx (eBs x y n f o4 o5 o6 o7 o8 o9) st) : fnDen N_by_slopes (sSeq (sExp (mCall (aCons (mVar 0) (aCons (mVar 2) (aNil))) (sized 2 chk))) (sSeq (sAsg (.nm 3) (mL (aNil) gTupD)) (sSeq LP (sSeq (sRet (mVar 3)) (sNil))))) [.p x, .p y, .p (.int n)] st = .ok (.p f) st := by
  unfold eBs at h
  simp [N_by_slopes, hc, h]
theorem g_by_slopes {n w1 w T1 T e b : Nat} {x y : PyData} {p q : Po.P} (hx : Pg n w1 T1 x p) (hy : Pg n w T y q) (hd : Dg e q) (hp : Dg b p) (he : e ≤ 1000) (hn : 1 ≤ n) (hn2 : n ≤ 1000) (hb2 : b ≤ 1000) (hw : w1 + w + 30 * b * n + 20 + 21 * T1 ≤ 990) (hT : T1 * T ≤ 900000) (hTT : T ≤ 900000) (hT1 : T1 ≤ 1000000) (st : Sto) :
    ∃ r l, φ_by_slopes [.p x, .p y, .p (.int n)] st = .ok (.p r) st ∧ Pg n (w1 + w + 30 * b * n + 20 + 21 * T1) (T1 * T) r (Po.ActL n (mth l) q) ∧ Po.cls (mth l) = p := by
  have hchk := e_check_poly hx hn hn2 (by omega) hT1 st
  obtain ⟨l, hl, rfl, hlT, rfl⟩ := hx
  have hle : ∀ t ∈ l, ∀ j, t.1.getD j 0 ≤ (b : Int) := Dg.le hl hp
  obtain ⟨env', st', h3, f, o4, o5, o6, o7, o8, o9, e1, e2, hP⟩ := for_inv (mi := iSeq (mVar 0)) (src := .fix ((l.map trm).map .p)) (g := .tp (.cons (.nm 4) (.cons (.nm 5) .nil))) (b := sSeq (sAsg (.nm 6) (mVar 1)) (sSeq (sFor (iArgs (aCons (mVar 4) (aNil)) enum1) (.tp (.cons (.nm 7) (.cons (.nm 8) .nil))) (sSeq (sFor (iArgs (aCons (mVar 8) (aNil)) rng1) (.nm 9) (sSeq (sAsg (.nm 6) (mCall (aCons (mVar 6) (aCons (mVar 7) (aNil))) (sized 2 φ_slope)))
    (sNil)))
    (sNil))) (sSeq (sAsg (.nm 3) (mCall (aCons (mVar 3) (aCons (mCall (aCons (mVar 5) (aCons (mVar 6) (aNil))) (sized 2 φ_scaled)) (aNil))) (sized 2 φ_add_polys))) (sNil)))) (ds := (l.map trm).map .p) (env := eBs (.tuple (l.map trm)) y n (.tuple []) none none none none none none) (st := st) (st1 := st)
    (fun i env z => ∃ f o4 o5 o6 o7 o8 o9, env = eBs (.tuple (l.map trm)) y n f o4 o5 o6 o7 o8 o9 ∧ z = st ∧ Pg n (w1 + w + 30 * b * n + 20 + 21 * i) (i * T) f (Po.ActL n (mth (l.take i)) q)) (iSeq_tup rfl) ⟨_, none, none, none, none, none, none, rfl, rfl, by rw [List.take_zero]; exact nil_poly.mono (Nat.le_refl _) (by omega)⟩ (fun _ _ _ _ => rfl) fun i d env z hx ⟨f, o4, o5, o6, o7, o8, o9, e1, e2, hP⟩ => by
      rw [List.map_map, List.getElem?_map] at hx
      cases hi : l[i]? with
      | none => rw [hi] at hx; cases hx
      | some t =>
        rw [hi] at hx
        cases hx
        have htm := List.mem_of_getElem? hi
        have hil : i < l.length := (List.getElem?_eq_some_iff.mp hi).1
        have o := hl.ok t htm
        subst e1 e2
        have hexp : (i + 1) * T = i * T + T := by rw [Nat.add_mul, Nat.one_mul]
        have hle2 : (i + 1) * T ≤ T1 * T := Nat.mul_le_mul_right _ (by omega)
        obtain ⟨part, o7', o8', o9', g1, g2⟩ := bs_mid (x := .tuple (l.map trm)) (y := y) (f := f) (o5 := some (.p t.2.1)) (o7 := o7) (o8 := o8) (o9 := o9) hy hd he o.len o.nn (hle t htm) hn2 hb2 (by omega) (by omega) z
        obtain ⟨s, g3, g4⟩ := g_scaled o.isr o.sz g2 (by omega) (by omega) z
        obtain ⟨f', g5, g6⟩ := g_add hP (g4.mono (w' := w1 + w + 30 * b * n + 20 + 21 * i) (by omega) (Nat.le_refl _)) hn (by omega) (by omega) z
        refine ⟨eBs (.tuple (l.map trm)) y n f (some (.p (tupI t.1))) (some (.p t.2.1)) o6 o7 o8 o9, by simp [eBs, trm], _, z, .inl (bs_core g1 g3 g5), f', _, _, _, _, _, _, rfl, rfl, ?_⟩
        rw [mth_take hi, Act_snoc, hexp]
        exact g6.mono (by omega) (Nat.le_refl _)
  rw [e1, e2] at h3
  rw [show ((l.map trm).map D.p).length = l.length by simp, List.take_length] at hP
  exact ⟨f, l, bs_ret hchk h3, hP.mono (by omega) (Nat.mul_le_mul_right _ hlT), rfl⟩
end Q
set_option Elab.async false
set_option linter.all false
set_option maxRecDepth 100000
set_option maxHeartbeats 4000000
set_option exponentiation.threshold 20000
namespace Q
open PySem PySem.Spec Fw
open L2 (Key)
/-! ## falling products -/
theorem fallK_bd {h : Int} (h0 : 0 ≤ h) (h1 : h ≤ 1000) : ∀ {m : Nat}, m ≤ 1000 → (Po.fallK h m).natAbs ≤ 2 ^ (10 * m)
  | 0, _ => by show (1 : Int).natAbs ≤ 2 ^ (10 * 0); decide
  | m + 1, hm => by
    have ih := fallK_bd h0 h1 (m := m) (by omega)
    rw [Po.fallK, Int.natAbs_mul]
    have h2 : (h - (m : Int)).natAbs ≤ 2 ^ 10 := by show _ ≤ 1024; omega
    calc (Po.fallK h m).natAbs * (h - (m : Int)).natAbs ≤ 2 ^ (10 * m) * 2 ^ 10 := Nat.mul_le_mul ih h2
      _ = 2 ^ (10 * (m + 1)) := by rw [← Nat.pow_add]; congr 1 <;> omega
theorem fall_bd {t a : Po.G} {b : Nat} (ht : ∀ i, 0 ≤ t i ∧ t i ≤ 1000) (ha : ∀ i, a i ≤ (b : Int)) (hb : b ≤ 1000) : ∀ n, (Po.fall n t a).natAbs ≤ 2 ^ (10 * b * n)
  | 0 => by show (1 : Int).natAbs ≤ 2 ^ (10 * b * 0); rw [Nat.mul_zero]; decide
  | n + 1 => by
    have ih := fall_bd ht ha hb n
    rw [Po.fall, Int.natAbs_mul]
    have hm : (a n).toNat ≤ b := by have := ha n; omega
    have h2 := fallK_bd (ht n).1 (ht n).2 (m := (a n).toNat) (by omega)
    have h3 : 2 ^ (10 * (a n).toNat) ≤ 2 ^ (10 * b) := Nat.pow_le_pow_right (by decide) (by omega)
    calc (Po.fall n t a).natAbs * (Po.fallK (t n) (a n).toNat).natAbs ≤ 2 ^ (10 * b * n) * 2 ^ (10 * b) := Nat.mul_le_mul ih (Nat.le_trans h2 h3)
      _ = 2 ^ (10 * b * (n + 1)) := by rw [← Nat.pow_add, Nat.mul_add, Nat.mul_one]
theorem fn_bd {l : List Int} {b : Nat} (h : ∀ k, l.getD k 0 ≤ (b : Int)) (h0 : ∀ i ∈ l, 0 ≤ i) (hb : b ≤ 1000) : ∀ i, 0 ≤ fnE l i ∧ fnE l i ≤ 1000 := fun i => by
  have := nat_at h0 i
  have := h i
  have e : fnE l i = l.getD i 0 := rfl
  omega
abbrev eFa (a b : PyData) (f : Int) (o3 o4 o5 : Option D) : Env' := [some (.p a), some (.p b), some (.p (.int f)), o3, o4, o5]
theorem mulI_s {i j : Int} {N : Nat} (h1 : i.natAbs ≤ 2 ^ N) (hN : N ≤ 9000) (h2 : j.natAbs ≤ 2 ^ 10) : mulI (.int i) (.int j) = some (.int (i * j)) :=
  ev_mulII (mulOk_of (N := N + 1) (M := 11) (Nat.lt_of_le_of_lt h1 (Nat.pow_lt_pow_right (by decide) (by omega))) (Nat.lt_of_le_of_lt h2 (by decide)) (by omega))
theorem fa_in {a b : PyData} {f h : Int} {m N : Nat} {o5 : Option D} (hf : f.natAbs ≤ 2 ^ N) (h0 : 0 ≤ h) (h1 : h ≤ 1000) (hm : m ≤ 1000) (hN : N + 10 * m ≤ 9000) (st : Sto) :
    ∃ o5', sFor (iArgs (aCons (mVar 4) (aNil)) rng1) (.nm 5) (sSeq (sAug 2 (lift2 1 mulI) (m2 (mVar 3) (mVar 5) (lift2 1 subP)))
    (sNil)) (eFa a b f (some (.p (.int h))) (some (.p (.int m))) o5) st = .nx (eFa a b (f * Po.fallK h m) (some (.p (.int h))) (some (.p (.int m))) o5') st := by
  obtain ⟨env', st', h3, o5', e1, e2⟩ := for_inv (mi := iArgs (aCons (mVar 4) (aNil)) rng1) (g := .nm 5) (b := sSeq (sAug 2 (lift2 1 mulI) (m2 (mVar 3) (mVar 5) (lift2 1 subP)))
    (sNil)) (env := eFa a b f (some (.p (.int h))) (some (.p (.int m))) o5) (st := st) (src := .fix ((List.range m).map fun (j : Nat) => .p (.int j)))
    (fun i env z => ∃ o5, env = eFa a b (f * Po.fallK h i) (some (.p (.int h))) (some (.p (.int m))) o5 ∧ z = st) (src_rng (n := m) (by simp [eFa]) (by omega)) ⟨o5, by show _ = eFa a b (f * 1) _ _ _; rw [Int.mul_one], rfl⟩ (fun _ _ _ _ => rfl) fun i x' env z hx ⟨o5, e1, e2⟩ => by
      obtain ⟨him, rfl⟩ := range_get hx
      subst e1 e2
      have hb := fallK_bd h0 h1 (m := i) (by omega)
      have hfb : (f * Po.fallK h i).natAbs ≤ 2 ^ (N + 10 * i) := by
        rw [Int.natAbs_mul, Nat.pow_add]
        exact Nat.mul_le_mul hf hb
      have hm := mulI_s hfb (by omega) (j := h - (i : Int)) (by show _ ≤ 1024; omega)
      have e : f * Po.fallK h (i + 1) = f * Po.fallK h i * (h - (i : Int)) := by rw [Po.fallK, Int.mul_assoc]
      refine ⟨eFa a b (f * Po.fallK h i) (some (.p (.int h))) (some (.p (.int m))) (some (.p (.int i))), by simp [eFa], eFa a b (f * Po.fallK h (i + 1)) (some (.p (.int h))) (some (.p (.int m))) (some (.p (.int i))), z, .inl ?_, _, rfl, rfl⟩
      rw [e]
      generalize f * Po.fallK h i = y at *
      simp [eFa, hm]
  rw [e1, e2] at h3
  rw [show (List.map (fun (j : Nat) => D.p (.int j)) (List.range m)).length = m by simp] at h3
  exact ⟨o5', h3⟩
theorem fa_core {LP : MS} {a b : PyData} {f f' : Int} {x y : PyData} {o5 o5' : Option D} {st : Sto} (h : LP (eFa a b f (some (.p x)) (some (.p y)) o5) st = .nx (eFa a b f' (some (.p x)) (some (.p y)) o5') st) : sSeq LP (sNil) (eFa a b f (some (.p x)) (some (.p y)) o5) st = .nx (eFa a b f' (some (.p x)) (some (.p y)) o5') st := by
  rw [ev_sSeq, h]
  rfl
theorem fa_ret {LP : MS} {a b : PyData} {f : Int} {o3 o4 o5 : Option D} {st : Sto} (h : LP (eFa a b 1 none none none) st = .nx (eFa a b f o3 o4 o5) st) : fnDen N_falls (sSeq (sAsg (.nm 2) (mC (.int 1))) (sSeq LP (sSeq (sRet (mVar 2)) (sNil)))) [.p a, .p b] st = .ok (.p (.int f)) st := by
  unfold eFa at h
  simp [N_falls, h]
theorem e_falls {t a : List Int} {n b : Nat} (ht : t.length = n) (ha : a.length = n) (t0 : ∀ i ∈ t, 0 ≤ i) (a0 : ∀ i ∈ a, 0 ≤ i) (tb : ∀ k, t.getD k 0 ≤ 1000) (ab : ∀ k, a.getD k 0 ≤ (b : Int)) (hb : b ≤ 1000) (hn : n ≤ 1000) (hbn : 10 * b * n ≤ 4000) (st : Sto) : φ_falls [.p (tupI t), .p (tupI a)] st = .ok (.p (.int (Po.fall n (fnE t) (fnE a)))) st := by
  obtain ⟨env', st', h3, o3, o4, o5, e1, e2⟩ := for_inv (mi := iArgs (aCons (mVar 0) (aCons (mVar 1) (aNil))) zip2) (g := .tp (.cons (.nm 3) (.cons (.nm 4) .nil))) (b := sSeq (sFor (iArgs (aCons (mVar 4) (aNil)) rng1) (.nm 5) (sSeq (sAug 2 (lift2 1 mulI) (m2 (mVar 3) (mVar 5) (lift2 1 subP)))
    (sNil)))
    (sNil)) (env := eFa (tupI t) (tupI a) 1 none none none) (st := st) (src := .fix (((t.map PyData.int).zip (a.map PyData.int)).map fun q => .p (.tuple [q.1, q.2])))
    (fun i env z => ∃ o3 o4 o5, env = eFa (tupI t) (tupI a) (Po.fall i (fnE t) (fnE a)) o3 o4 o5 ∧ z = st) (src_zip (by simp [eFa, tupI])) ⟨none, none, none, rfl, rfl⟩ (fun _ _ _ _ => rfl) fun i x' env z hx ⟨o3, o4, o5, e1, e2⟩ => by
      rw [List.getElem?_map] at hx
      cases hi : ((t.map PyData.int).zip (a.map PyData.int))[i]? with
      | none => rw [hi] at hx; cases hx
      | some q =>
        rw [hi] at hx
        cases hx
        rw [List.getElem?_zip_eq_some, List.getElem?_map, List.getElem?_map] at hi
        obtain ⟨q1, q2⟩ := q
        obtain ⟨hi1, hi2⟩ := hi
        cases ht1 : t[i]? with
        | none => rw [ht1] at hi1; cases hi1
        | some h =>
          cases ha1 : a[i]? with
          | none => rw [ha1] at hi2; cases hi2
          | some v =>
            rw [ht1] at hi1
            rw [ha1] at hi2
            cases hi1
            cases hi2
            have hin : i < n := by rw [← ht]; exact (List.getElem?_eq_some_iff.mp ht1).1
            have hh : fnE t i = h := by show t.getD i 0 = h; rw [List.getD_eq_getElem?_getD, ht1]; rfl
            have hv : fnE a i = v := by show a.getD i 0 = v; rw [List.getD_eq_getElem?_getD, ha1]; rfl
            have hfn := fn_bd (l := t) (b := 1000) tb t0 (Nat.le_refl _)
            have hna : v = ((v.toNat : Nat) : Int) := by have := a0 v (List.mem_of_getElem? ha1); omega
            have hvb : v ≤ (b : Int) := by have := ab i; rw [List.getD_eq_getElem?_getD, ha1] at this; exact this
            have hbd := fall_bd (t := fnE t) (a := fnE a) (b := b) hfn (fun i => ab i) hb i
            have hle : 10 * b * i ≤ 10 * b * n := Nat.mul_le_mul_left _ (by omega)
            have h10 : 10 * b * (i + 1) ≤ 10 * b * n := Nat.mul_le_mul_left _ (by omega)
            rw [Nat.mul_add, Nat.mul_one] at h10
            obtain ⟨g1, g2⟩ := hfn i
            rw [hh] at g1 g2
            subst e1 e2
            have e : Po.fall (i + 1) (fnE t) (fnE a) = Po.fall i (fnE t) (fnE a) * Po.fallK h v.toNat := by rw [Po.fall, hh, hv]
            rw [e]
            obtain ⟨o5', g3⟩ := fa_in (a := tupI t) (b := tupI a) (o5 := o5) (m := v.toNat) hbd g1 g2 (by omega) (by omega) z
            rw [← hna] at g3
            exact ⟨eFa (tupI t) (tupI a) (Po.fall i (fnE t) (fnE a)) (some (.p (.int h))) (some (.p (.int v))) o5, by simp [eFa], _, z, .inl (fa_core g3), _, _, _, rfl, rfl⟩
  rw [e1, e2] at h3
  have hlen : (((t.map PyData.int).zip (a.map PyData.int)).map fun q => D.p (.tuple [q.1, q.2])).length = n := by simp [ht, ha]
  rw [hlen] at h3
  exact fa_ret h3
/-! ## divides, over -/
def dvd (a b : List Int) : Bool := (a.zip b).all fun q => decide (q.1 ≤ q.2)
theorem e_divides (a b : List Int) (hl : a.length ≤ 1000) (st : Sto) : φ_divides [.p (tupI a), .p (tupI b)] st = .ok (.p (.bool (dvd a b))) st := by
  have hc := comp_all (mi := iArgs (aCons (mVar 0) (aCons (mVar 1) (aNil))) zip2) (own := [2, 3]) (g := .tp (.cons (.nm 2) (.cons (.nm 3) .nil))) (m := m2 (mVar 2) (mVar 3) (lift2 3 leP)) (env := [some (.p (tupI a)), some (.p (tupI b)), none, none]) (st := st) (st0 := st) (xs := a.zip b) (e := fun q => .tuple [.int q.1, .int q.2]) (h := fun q : Int × Int => .bool (decide (q.1 ≤ q.2)))
    (by rw [src_zip (xs := a.map .int) (ys := b.map .int) (st1 := st) (by simp [tupI]), pairs_T]) (by rw [List.length_zip]; omega) fun q _ => turn_all (env1 := [some (.p (tupI a)), some (.p (tupI b)), some (.p (.int q.1)), some (.p (.int q.2))]) (by simp [wipeE]) (by simp)
  rw [mapb] at hc
  have ha := allP_b ((a.zip b).map fun q : Int × Int => decide (q.1 ≤ q.2))
  have e : ((a.zip b).map fun q : Int × Int => decide (q.1 ≤ q.2)).all id = dvd a b := by rw [List.all_map]; rfl
  rw [e] at ha
  generalize ((a.zip b).map fun q : Int × Int => decide (q.1 ≤ q.2)).map PyData.bool = bs at *
  simp [φ_divides, N_divides, m_divides, hc, ha]
theorem e_over {a b : List Int} (hl : a.length ≤ 1000) (hl2 : b.length ≤ 1000) (h : dvd b a = true) (st : Sto) : φ_over [.p (tupI a), .p (tupI b)] st = .ok (.p (tupI (a.zipWith (· - ·) b))) st := by
  have hd := fun st => e_divides b a hl2 st
  simp only [h] at hd
  have hc := comp_all (mi := iArgs (aCons (mVar 0) (aCons (mVar 1) (aNil))) zip2) (own := [2, 3]) (g := .tp (.cons (.nm 2) (.cons (.nm 3) .nil))) (m := m2 (mVar 2) (mVar 3) (lift2 1 subP)) (env := [some (.p (tupI a)), some (.p (tupI b)), none, none]) (st := st) (st0 := st) (xs := a.zip b) (e := fun q => .tuple [.int q.1, .int q.2]) (h := fun q : Int × Int => .int (q.1 - q.2))
    (by rw [src_zip (xs := a.map .int) (ys := b.map .int) (st1 := st) (by simp [tupI]), pairs_T]) (by rw [List.length_zip]; omega) fun q _ => turn_all (env1 := [some (.p (tupI a)), some (.p (tupI b)), some (.p (.int q.1)), some (.p (.int q.2))]) (by simp [wipeE]) (by simp)
  rw [zip_tup (fun x y => x - y)] at hc
  have e : PyData.tuple ((a.zipWith (fun x y => x - y) b).map .int) = tupI (a.zipWith (· - ·) b) := rfl
  generalize (a.zipWith (fun x y => x - y) b).map PyData.int = ys at *
  simp [φ_over, N_over, m_over, hd, hc, e]
end Q
set_option Elab.async false
set_option linter.all false
set_option maxRecDepth 100000
set_option maxHeartbeats 4000000
set_option exponentiation.threshold 20000
namespace Q
open PySem PySem.Spec Fw
open L2 (Key)
/-! ## acting at once -/
def acT (n : Nat) (s t : U) : U := (t.1.zipWith (· - ·) s.1, rat (s.2.2 * t.2.2 * (Po.fall n (fnE t.1) (fnE s.1) : Rat)), s.2.2 * t.2.2 * (Po.fall n (fnE t.1) (fnE s.1) : Rat))
def acU (n : Nat) (s : U) (m : List U) : List U := (m.filter fun t => dvd s.1 t.1).map (acT n s)
theorem dvd_iff {a b : List Int} (h : a.length = b.length) : dvd a b = true ↔ ∀ i, i < a.length → a.getD i 0 ≤ b.getD i 0 := by
  unfold dvd
  rw [List.all_eq_true]
  constructor
  · intro g i hi
    have hz : (a.zip b)[i]? = some (a.getD i 0, b.getD i 0) := by
      rw [List.getElem?_zip_eq_some, List.getD_eq_getElem?_getD, List.getD_eq_getElem?_getD, List.getElem?_eq_getElem hi, List.getElem?_eq_getElem (by omega)]
      exact ⟨rfl, rfl⟩
    exact of_decide_eq_true (g _ (List.mem_of_getElem? hz))
  · intro g q hq
    obtain ⟨i, hi, e⟩ := List.getElem_of_mem hq
    have hz : (a.zip b)[i]? = some q := by rw [List.getElem?_eq_getElem hi, e]
    rw [List.getElem?_zip_eq_some] at hz
    have hia : i < a.length := (List.getElem?_eq_some_iff.mp hz.1).1
    have := g i hia
    rw [List.getD_eq_getElem?_getD, List.getD_eq_getElem?_getD, hz.1, hz.2] at this
    exact decide_eq_true this
theorem low_fn {n : Nat} {t s : List Int} (ht : t.length = n) (hs : s.length = n) (s0 : ∀ i ∈ s, 0 ≤ i) : fnE (t.zipWith (· - ·) s) = Po.low n (fnE t) (fnE s) := by
  funext i
  have hn := nat_at s0 i
  unfold Po.low
  show (t.zipWith (· - ·) s).getD i 0 = _
  rw [List.getD_eq_getElem?_getD, List.getElem?_zipWith]
  by_cases h : i < n
  · rw [if_pos h, List.getElem?_eq_getElem (by omega), List.getElem?_eq_getElem (by omega), ← hn]
    show t[i] - s[i] = t.getD i 0 - s.getD i 0
    rw [List.getD_eq_getElem?_getD, List.getD_eq_getElem?_getD, List.getElem?_eq_getElem (by omega), List.getElem?_eq_getElem (by omega)]
    rfl
  · rw [if_neg h, List.getElem?_eq_none (by omega), List.getElem?_eq_none (by omega)]
    show (0 : Int) = t.getD i 0
    rw [List.getD_eq_getElem?_getD, List.getElem?_eq_none (by omega)]
    rfl
theorem ndvd_fall {n : Nat} {t s : List Int} (ht : t.length = n) (hs : s.length = n) (t0 : ∀ i ∈ t, 0 ≤ i) (h : ¬ dvd s t = true) : Po.fall n (fnE t) (fnE s) = 0 := by
  rw [dvd_iff (by omega)] at h
  have : ∃ i, i < s.length ∧ ¬ s.getD i 0 ≤ t.getD i 0 := Classical.byContradiction fun z => h fun i hi => Classical.byContradiction fun y => z ⟨i, hi, y⟩
  obtain ⟨i, hi, hlt⟩ := this
  refine Po.fall_zero (i := i) (by omega) ?_ (by show t.getD i 0 < s.getD i 0; omega)
  have := nat_at t0 i
  show 0 ≤ t.getD i 0
  omega
theorem acU_cls {n : Nat} {s : U} {m : List U} (hs : s.1.length = n) (s0 : ∀ i ∈ s.1, 0 ≤ i) (hm : ∀ t ∈ m, t.1.length = n ∧ ∀ i ∈ t.1, 0 ≤ i) : Po.cls (mth (acU n s m)) = Po.C s.2.2 * Po.Dm n (fnE s.1) (Po.cls (mth m)) := by
  refine Po.ext fun g => ?_
  rw [Po.co_Cmul, Po.Dm_cls, Po.co_cls, Po.co_cls]
  induction m with
  | nil => exact (Rat.mul_zero _).symm
  | cons t m ih =>
    have ih := ih fun u hu => hm u (List.mem_cons_of_mem _ hu)
    obtain ⟨h1, h2⟩ := hm t List.mem_cons_self
    have hr : (mth (t :: m)).map (fun t => (Po.low n t.1 (fnE s.1), t.2 * (Po.fall n t.1 (fnE s.1) : Rat))) = (Po.low n (fnE t.1) (fnE s.1), t.2.2 * (Po.fall n (fnE t.1) (fnE s.1) : Rat)) :: (mth m).map (fun t => (Po.low n t.1 (fnE s.1), t.2 * (Po.fall n t.1 (fnE s.1) : Rat))) := rfl
    rw [hr, Po.sem, Rat.mul_add, ← ih]
    unfold acU
    by_cases q : dvd s.1 t.1 = true
    · rw [List.filter_cons_of_pos (p := fun t : U => dvd s.1 t.1) (a := t) q, List.map_cons]
      have e : mth (acT n s t :: acU n s m) = (fnE (t.1.zipWith (· - ·) s.1), s.2.2 * t.2.2 * (Po.fall n (fnE t.1) (fnE s.1) : Rat)) :: mth (acU n s m) := rfl
      unfold acU at e
      rw [e, Po.sem, low_fn h1 hs s0]
      congr 1
      split
      · rw [Rat.mul_assoc]
      · rw [Rat.mul_zero]
    · rw [List.filter_cons_of_neg (p := fun t : U => dvd s.1 t.1) (a := t) q, ndvd_fall h1 hs h2 q]
      have z : t.2.2 * ((0 : Int) : Rat) = 0 := Rat.mul_zero _
      rw [z]
      split <;> rw [Rat.mul_zero, Rat.zero_add]
theorem sub_nn {a b : List Int} (h : dvd b a = true) (hl : a.length = b.length) : ∀ i ∈ a.zipWith (· - ·) b, 0 ≤ i := fun i hi => by
  obtain ⟨k, hk, e⟩ := List.getElem_of_mem hi
  rw [List.getElem_zipWith] at e
  have hk' : k < a.length ∧ k < b.length := by simp at hk; omega
  have := (dvd_iff (by omega)).mp h k hk'.2
  rw [List.getD_eq_getElem?_getD, List.getD_eq_getElem?_getD, List.getElem?_eq_getElem hk'.1, List.getElem?_eq_getElem hk'.2] at this
  have : b[k] ≤ a[k] := this
  omega
theorem sz_fall {n b : Nat} {t s : List Int} (t0 : ∀ i ∈ t, 0 ≤ i) (tb : ∀ k, t.getD k 0 ≤ 1000) (ab : ∀ k, s.getD k 0 ≤ (b : Int)) (hb : b ≤ 1000) : Sz (2 ^ (10 * b * n)) 0 (Po.fall n (fnE t) (fnE s) : Rat) :=
  Sz.int _ (by rw [Nat.pow_zero, Nat.mul_one]; exact fall_bd (t := fnE t) (a := fnE s) (fn_bd (b := 1000) tb t0 (Nat.le_refl _)) ab hb n)
theorem acU_ok {n b w1 w : Nat} {s : U} {m : List U} (hs : Okt n (2 ^ (4 * w1)) w1 s) (sb : ∀ k, s.1.getD k 0 ≤ (b : Int)) (hm : ∀ t ∈ m, Okt n (2 ^ (4 * w)) w t) (tb : ∀ t ∈ m, ∀ k, t.1.getD k 0 ≤ 1000) (hb : b ≤ 1000) : ∀ t ∈ acU n s m, Okt n (2 ^ (4 * (w1 + w + 10 * b * n))) (w1 + w + 10 * b * n) t := fun t ht => by
  obtain ⟨u, hu, rfl⟩ := List.mem_map.mp ht
  obtain ⟨h1, h2⟩ := List.mem_filter.mp hu
  have o := hm u h1
  have hz := (hs.sz.mul o.sz).mul (sz_fall (n := n) o.nn (tb u h1) sb hb)
  have : Okt n (2 ^ (4 * w1) * 2 ^ (4 * w) * 2 ^ (10 * b * n)) (w1 + w) (acT n s u) := ⟨by show (u.1.zipWith (· - ·) s.1).length = n; rw [List.length_zipWith, o.len, hs.len, Nat.min_self], sub_nn h2 (by rw [o.len, hs.len]), IsR.rat _, hz⟩
  refine (this.up (10 * b * n)).mono ?_
  calc 2 ^ (4 * w1) * 2 ^ (4 * w) * 2 ^ (10 * b * n) * 6 ^ (10 * b * n) ≤ 2 ^ (4 * w1) * 2 ^ (4 * w) * 2 ^ (10 * b * n) * 2 ^ (3 * (10 * b * n)) := Nat.mul_le_mul_left _ (six_le _)
    _ = 2 ^ (4 * (w1 + w + 10 * b * n)) := by rw [← Nat.pow_add, ← Nat.pow_add, ← Nat.pow_add]; congr 1; omega
/-! the program's acting -/
abbrev eAd (x y : PyData) (n : Nat) (f : PyData) (o4 o5 o6 o7 o8 o9 : Option D) : Env' := [some (.p x), some (.p y), some (.p (.int n)), some (.p f), o4, o5, o6, o7, o8, o9]
def bAd (dv mul fa of' ov : List D → M D) : MS := sSeq (sIf (tV (mCall (aCons (mVar 4) (aCons (mVar 7) (aNil))) (sized 2 dv))) (sSeq (sAsg (.nm 9) (mCall (aCons (mCall (aCons (mVar 5) (aCons (mVar 8) (aNil))) (sized 2 mul)) (aCons (mCall (aCons (mCall (aCons (mVar 7) (aCons (mVar 4) (aNil))) (sized 2 fa)) (aNil)) (sized 1 of')) (aNil))) (sized 2 mul)))
    (sSeq (sExp (mMth (mVar 6) (aCons (mL (aCons (mCall (aCons (mVar 7) (aCons (mVar 4) (aNil))) (sized 2 ov)) (aCons (mVar 9) (aNil))) gTupD) (aNil)) appendG))
    (sNil))) (sNil))
    (sNil)
theorem ad_core {dv mul fa of' ov : List D → M D} {x y f a b c d o w1 w2 v i : PyData} {n : Nat} {k : Bool} {S : Sto} {ys : List PyData} {o9 : Option D} (hy : ys.length ≤ 1000000) (h1 : dv [.p a, .p c] (S ++ [dL ys]) = .ok (.p (.bool k)) (S ++ [dL ys]))
    (h2 : k = true → mul [.p b, .p d] (S ++ [dL ys]) = .ok (.p w1) (S ++ [dL ys]) ∧ fa [.p c, .p a] (S ++ [dL ys]) = .ok (.p i) (S ++ [dL ys]) ∧ of' [.p i] (S ++ [dL ys]) = .ok (.p v) (S ++ [dL ys]) ∧ mul [.p w1, .p v] (S ++ [dL ys]) = .ok (.p w2) (S ++ [dL ys]) ∧ ov [.p c, .p a] (S ++ [dL ys]) = .ok (.p o) (S ++ [dL ys])) :
    ∃ o9', bAd dv mul fa of' ov (eAd x y n f (some (.p a)) (some (.p b)) (some (.loc S.length)) (some (.p c)) (some (.p d)) o9) (S ++ [dL ys]) = .nx (eAd x y n f (some (.p a)) (some (.p b)) (some (.loc S.length)) (some (.p c)) (some (.p d)) o9') (S ++ [dL (if k = true then ys ++ [.tuple [o, w2]] else ys)]) := by
  cases k with
  | true =>
    obtain ⟨g1, g2, g3, g4, g5⟩ := h2 rfl
    have ha := dL_app (st := S) (r := []) (xs := ys) (x := .tuple [o, w2]) hy
    have hi := dL_lst (st := S) (r := []) (xs := ys)
    refine ⟨some (.p w2), ?_⟩
    rw [if_pos rfl]
    simp [bAd, eAd, h1, g1, g2, g3, g4, g5, ha, hi]
  | false =>
    refine ⟨o9, ?_⟩
    rw [if_neg Bool.false_ne_true]
    simp [bAd, eAd, h1]
theorem acU_take {n i : Nat} {s : U} {l : List U} {t : U} (h : l[i]? = some t) : acU n s (l.take (i + 1)) = acU n s (l.take i) ++ (if dvd s.1 t.1 = true then [acT n s t] else []) := by
  rw [List.take_add_one, h]
  unfold acU
  rw [List.filter_append, List.map_append]
  congr 1
  by_cases q : dvd s.1 t.1 = true
  · rw [if_pos q]
    show List.map _ (List.filter _ [t]) = _
    rw [List.filter_cons_of_pos (p := fun t : U => dvd s.1 t.1) (a := t) q]
    rfl
  · rw [if_neg q]
    show List.map _ (List.filter _ [t]) = _
    rw [List.filter_cons_of_neg (p := fun t : U => dvd s.1 t.1) (a := t) q]
    rfl
theorem acU_len (n : Nat) (s : U) (l : List U) : (acU n s l).length ≤ l.length := by
  unfold acU
  rw [List.length_map]
  exact List.length_filter_le _ _
theorem ad_loop {n b w1 w : Nat} {x f : PyData} {s : U} {m : List U} {S : Sto} {o7 o8 o9 : Option D} (hs : Okt n (2 ^ (4 * w1)) w1 s) (sb : ∀ k, s.1.getD k 0 ≤ (b : Int)) (hm : ∀ t ∈ m, Okt n (2 ^ (4 * w)) w t) (tb : ∀ t ∈ m, ∀ k, t.1.getD k 0 ≤ 1000) (hb : b ≤ 1000) (hn : n ≤ 1000) (hbn : 10 * b * n ≤ 900) (hw : w1 + w ≤ 900) (hl : m.length ≤ 1000000) :
    ∃ o7' o8' o9', sFor (iSeq (mVar 1)) (.tp (.cons (.nm 7) (.cons (.nm 8) .nil))) (bAd φ_divides φ_multiply_ratios φ_falls φ_of φ_over) (eAd x (.tuple (m.map trm)) n f (some (.p (tupI s.1))) (some (.p s.2.1)) (some (.loc S.length)) o7 o8 o9) (S ++ [dL []]) = .nx (eAd x (.tuple (m.map trm)) n f (some (.p (tupI s.1))) (some (.p s.2.1)) (some (.loc S.length)) o7' o8' o9') (S ++ [dL ((acU n s m).map trm)]) := by
  have b1 := pow_lt (w := w1) (by omega)
  have b2 := pow_lt (w := w) (by omega)
  have b3 := pow_lt (w := w1 + w) (by omega)
  obtain ⟨env', st', h3, o7', o8', o9', e1, e2⟩ := for_inv (mi := iSeq (mVar 1)) (src := .fix ((m.map trm).map .p)) (g := .tp (.cons (.nm 7) (.cons (.nm 8) .nil))) (b := bAd φ_divides φ_multiply_ratios φ_falls φ_of φ_over) (ds := (m.map trm).map .p) (env := eAd x (.tuple (m.map trm)) n f (some (.p (tupI s.1))) (some (.p s.2.1)) (some (.loc S.length)) o7 o8 o9) (st := S ++ [dL []]) (st1 := S ++ [dL []])
    (fun i env z => ∃ o7 o8 o9, env = eAd x (.tuple (m.map trm)) n f (some (.p (tupI s.1))) (some (.p s.2.1)) (some (.loc S.length)) o7 o8 o9 ∧ z = S ++ [dL ((acU n s (m.take i)).map trm)]) (iSeq_tup rfl) ⟨o7, o8, o9, rfl, rfl⟩ (fun _ _ _ _ => rfl) fun i d env z hx ⟨o7, o8, o9, e1, e2⟩ => by
      rw [List.map_map, List.getElem?_map] at hx
      cases hi : m[i]? with
      | none => rw [hi] at hx; cases hx
      | some t =>
        rw [hi] at hx
        cases hx
        have htm := List.mem_of_getElem? hi
        have o := hm t htm
        subst e1 e2
        have hlen : ((acU n s (m.take i)).map trm).length ≤ 1000000 := by
          rw [List.length_map]
          have := acU_len n s (m.take i)
          rw [List.length_take] at this
          omega
        have hdv := e_divides s.1 t.1 (by rw [hs.len]; exact hn) (S ++ [dL ((acU n s (m.take i)).map trm)])
        have hfall : (2 : Nat) ^ (10 * b * n) < 2 ^ 4000 := Nat.pow_lt_pow_right (by decide) (by omega)
        obtain ⟨o9', hc⟩ := ad_core (x := x) (y := .tuple (m.map trm)) (f := f) (n := n) (S := S) (ys := (acU n s (m.take i)).map trm) (o9 := o9) (mul := φ_multiply_ratios) (fa := φ_falls) (of' := φ_of) (ov := φ_over) (b := s.2.1) (d := t.2.1) (o := tupI (t.1.zipWith (· - ·) s.1)) (w1 := rat (s.2.2 * t.2.2)) (v := rat ((Po.fall n (fnE t.1) (fnE s.1) : Int) : Rat)) (i := .int (Po.fall n (fnE t.1) (fnE s.1))) (w2 := rat (s.2.2 * t.2.2 * (Po.fall n (fnE t.1) (fnE s.1) : Rat))) hlen hdv fun hk => ⟨e_mulR hs.isr o.isr (hs.sz.nb b1.1 b1.2) (o.sz.nb b2.1 b2.2) (by decide), e_falls o.len hs.len o.nn hs.nn (tb t htm) sb hb hn (by omega) _, e_of _, e_mulR (IsR.rat _) (IsR.rat _) ((hs.sz.mul o.sz).nb (N := 4000) (Nat.lt_of_le_of_lt (Nat.le_of_eq (by rw [← Nat.pow_add, ← Nat.mul_add])) b3.1) b3.2) ((sz_fall (n := n) o.nn (tb t htm) sb hb).nb hfall (Nat.one_lt_pow (by decide) (by decide))) (by decide), e_over (by rw [o.len]; exact hn) (by rw [hs.len]; exact hn) hk _⟩
        refine ⟨eAd x (.tuple (m.map trm)) n f (some (.p (tupI s.1))) (some (.p s.2.1)) (some (.loc S.length)) (some (.p (tupI t.1))) (some (.p t.2.1)) o9, by simp [eAd, trm], _, _, .inl hc, _, _, _, rfl, ?_⟩
        rw [acU_take hi]
        by_cases q : dvd s.1 t.1 = true
        · rw [if_pos q, if_pos q, List.map_append]
          rfl
        · rw [if_neg q, if_neg q, List.append_nil]
  refine ⟨o7', o8', o9', ?_⟩
  rw [h3, e1, e2]
  rw [show ((m.map trm).map D.p).length = m.length by simp, List.take_length]
end Q
set_option Elab.async false
set_option linter.all false
set_option maxRecDepth 100000
set_option maxHeartbeats 4000000
set_option exponentiation.threshold 20000
namespace Q
open PySem PySem.Spec Fw
open L2 (Key)
theorem ado_core {LP : MS} {ga add : List D → M D} {x y f a b s f' : PyData} {n : Nat} {o6 o7 o8 o9 o7' o8' o9' : Option D} {S : Sto} {ys : List PyData} (h1 : LP (eAd x y n f (some (.p a)) (some (.p b)) (some (.loc S.length)) o7 o8 o9) (S ++ [dL []]) = .nx (eAd x y n f (some (.p a)) (some (.p b)) (some (.loc S.length)) o7' o8' o9') (S ++ [dL ys])) (h2 : ga [.loc S.length] (S ++ [dL ys]) = .ok (.p s) (S ++ [dL ys])) (h3 : add [.p f, .p s] (S ++ [dL ys]) = .ok (.p f') (S ++ [dL ys])) :
    sSeq (sAsg (.nm 6) (mL (aNil) gMutD)) (sSeq LP (sSeq (sAsg (.nm 3) (mCall (aCons (mVar 3) (aCons (mCall (aCons (mVar 6) (aNil)) (sized 1 ga)) (aNil))) (sized 2 add))) (sNil))) (eAd x y n f (some (.p a)) (some (.p b)) o6 o7 o8 o9) S = .nx (eAd x y n f' (some (.p a)) (some (.p b)) (some (.loc S.length)) o7' o8' o9') (S ++ [dL ys]) := by
  rw [dL_nil] at h1
  unfold eAd at h1 ⊢
  simp [h1, h2, h3]
theorem ad_ret {LP : MS} {chk : List D → M D} {x y f : PyData} {n : Nat} {st g : Sto} {o4 o5 o6 o7 o8 o9 : Option D} (hc : chk [.p x, .p (.int n)] st = .ok (.p .none) st) (hc2 : chk [.p y, .p (.int n)] st = .ok (.p .none) st) (h : LP (eAd x y n (.tuple []) none none none none none none) st = .nx (eAd x y n f o4 o5 o6 o7 o8 o9) (st ++ g)) : fnDen N_acted (sSeq (sExp (mCall (aCons (mVar 0) (aCons (mVar 2) (aNil))) (sized 2 chk))) (sSeq (sExp (mCall (aCons (mVar 1) (aCons (mVar 2) (aNil))) (sized 2 chk))) (sSeq (sAsg (.nm 3) (mL (aNil) gTupD)) (sSeq LP (sSeq (sRet (mVar 3)) (sNil)))))) [.p x, .p y, .p (.int n)] st = .ok (.p f) st := by
  unfold eAd at h
  simp [N_acted, hc, hc2, h]
/-- the program's acting: the sum over the first polynomial's terms -/
theorem g_acted {n w1 w T1 T e b : Nat} {x y : PyData} {p q : Po.P} (hx : Pg n w1 T1 x p) (hy : Pg n w T y q) (hd : Dg e q) (hp : Dg b p) (he : e ≤ 1000) (hn : 1 ≤ n) (hn2 : n ≤ 1000) (hb2 : b ≤ 1000) (hbn : 10 * b * n ≤ 900) (hw : w1 + w + 10 * b * n + 20 + 21 * T1 ≤ 900) (hT : T1 * T ≤ 900000) (hTT : T ≤ 900000) (hT1 : T1 ≤ 1000000) (st : Sto) :
    ∃ r l, φ_acted [.p x, .p y, .p (.int n)] st = .ok (.p r) st ∧ Pg n (w1 + w + 10 * b * n + 20 + 21 * T1) (T1 * T) r (Po.ActL n (mth l) q) ∧ Po.cls (mth l) = p ∧ ∀ t ∈ l, t.1.length = n ∧ ∀ i ∈ t.1, 0 ≤ i := by
  have hchk := e_check_poly hx hn hn2 (by omega) hT1 st
  have hchk2 := e_check_poly hy hn hn2 (by omega) (by omega) st
  obtain ⟨l, hl, rfl, hlT, rfl⟩ := hx
  obtain ⟨m, hm, rfl, hmT, rfl⟩ := hy
  have hle : ∀ t ∈ l, ∀ j, t.1.getD j 0 ≤ (b : Int) := Dg.le hl hp
  have hme : ∀ t ∈ m, ∀ j, t.1.getD j 0 ≤ 1000 := fun t ht j => by have := Dg.le hm hd t ht j; omega
  obtain ⟨env', st', h3, f, g, o4, o5, o6, o7, o8, o9, e1, e2, hP⟩ := for_inv (mi := iSeq (mVar 0)) (src := .fix ((l.map trm).map .p)) (g := .tp (.cons (.nm 4) (.cons (.nm 5) .nil))) (b := sSeq (sAsg (.nm 6) (mL (aNil) gMutD)) (sSeq (sFor (iSeq (mVar 1)) (.tp (.cons (.nm 7) (.cons (.nm 8) .nil))) (bAd φ_divides φ_multiply_ratios φ_falls φ_of φ_over)) (sSeq (sAsg (.nm 3) (mCall (aCons (mVar 3) (aCons (mCall (aCons (mVar 6) (aNil)) (sized 1 φ_gathered)) (aNil))) (sized 2 φ_add_polys))) (sNil)))) (ds := (l.map trm).map .p) (env := eAd (.tuple (l.map trm)) (.tuple (m.map trm)) n (.tuple []) none none none none none none) (st := st) (st1 := st)
    (fun i env z => ∃ f g o4 o5 o6 o7 o8 o9, env = eAd (.tuple (l.map trm)) (.tuple (m.map trm)) n f o4 o5 o6 o7 o8 o9 ∧ z = st ++ g ∧ Pg n (w1 + w + 10 * b * n + 20 + 21 * i) (i * T) f (Po.ActL n (mth (l.take i)) (Po.cls (mth m)))) (iSeq_tup rfl) ⟨_, [], none, none, none, none, none, none, rfl, by simp, by rw [List.take_zero]; exact nil_poly.mono (Nat.le_refl _) (by omega)⟩ (fun _ _ _ _ => rfl) fun i d env z hx ⟨f, g, o4, o5, o6, o7, o8, o9, e1, e2, hP⟩ => by
      rw [List.map_map, List.getElem?_map] at hx
      cases hi : l[i]? with
      | none => rw [hi] at hx; cases hx
      | some t =>
        rw [hi] at hx
        cases hx
        have htm := List.mem_of_getElem? hi
        have hil : i < l.length := (List.getElem?_eq_some_iff.mp hi).1
        have o := hl.ok t htm
        subst e1 e2
        have hexp : (i + 1) * T = i * T + T := by rw [Nat.add_mul, Nat.one_mul]
        have hle2 : (i + 1) * T ≤ T1 * T := Nat.mul_le_mul_right _ (by omega)
        obtain ⟨o7', o8', o9', g1⟩ := ad_loop (x := .tuple (l.map trm)) (f := f) (S := st ++ g) (o7 := o7) (o8 := o8) (o9 := o9) o (hle t htm) hm.ok hme hb2 hn2 hbn (by omega) (by omega)
        obtain ⟨s, g3, g4⟩ := g_gathered (st := (st ++ g) ++ [dL ((acU n t m).map trm)]) (d := .loc (st ++ g).length) (T := T) (n := n) (.inr (.inr ⟨_, rfl, get_last⟩)) hn (acU_ok o (hle t htm) hm.ok hme hb2) (by have := acU_len n t m; omega) (by omega) (by omega)
        rw [acU_cls o.len o.nn fun u hu => ⟨(hm.ok u hu).len, (hm.ok u hu).nn⟩] at g4
        obtain ⟨f', g5, g6⟩ := g_add hP (g4.mono (w' := w1 + w + 10 * b * n + 20 + 21 * i) (by omega) (Nat.le_refl _)) hn (by omega) (by omega) ((st ++ g) ++ [dL ((acU n t m).map trm)])
        refine ⟨eAd (.tuple (l.map trm)) (.tuple (m.map trm)) n f (some (.p (tupI t.1))) (some (.p t.2.1)) o6 o7 o8 o9, by simp [eAd, trm], _, _, .inl (ado_core g1 g3 g5), f', g ++ [dL ((acU n t m).map trm)], _, _, _, _, _, _, rfl, by rw [List.append_assoc], ?_⟩
        rw [mth_take hi, Act_snoc, hexp]
        exact g6.mono (by omega) (Nat.le_refl _)
  rw [e1, e2] at h3
  rw [show ((l.map trm).map D.p).length = l.length by simp, List.take_length] at hP
  exact ⟨f, l, ad_ret hchk hchk2 h3, hP.mono (by omega) (Nat.mul_le_mul_right _ hlT), rfl, fun t ht => ⟨(hl.ok t ht).len, (hl.ok t ht).nn⟩⟩
/-! ## degrees of sums, products and what is acted -/
theorem Dg.add {a b : Nat} {p q : Po.P} (h : Dg a p) (h' : Dg b q) : Dg (max a b) (p + q) := fun g hg j => by
  rw [Po.co_add] at hg
  by_cases z : Po.co p g = 0
  · have : Po.co q g ≠ 0 := fun y => hg (by rw [z, y, Rat.add_zero])
    have := h' g this j
    omega
  · have := h g z j
    omega
theorem sem_mem {l : Po.L} {g : Po.G} (h : Po.sem l g ≠ 0) : ∃ t ∈ l, t.1 = g := by
  induction l with
  | nil => exact absurd rfl h
  | cons t l ih =>
    by_cases q : t.1 = g
    · exact ⟨t, List.mem_cons_self, q⟩
    · rw [Po.sem, if_neg q, Rat.zero_add] at h
      obtain ⟨u, hu, e⟩ := ih h
      exact ⟨u, List.mem_cons_of_mem _ hu, e⟩
theorem Dg.mul {n c k T c' k' T' a b : Nat} {x y : PyData} {p q : Po.P} (hx : PolyD n c k T x p) (hy : PolyD n c' k' T' y q) (h : Dg a p) (h' : Dg b q) : Dg (a + b) (p * q) := by
  obtain ⟨l, hl, rfl, _, rfl⟩ := hx
  obtain ⟨m, hm, rfl, _, rfl⟩ := hy
  intro g hg j
  rw [← Po.cls_mul, Po.co_cls] at hg
  obtain ⟨t, ht, e⟩ := sem_mem hg
  obtain ⟨s, hs, hts⟩ := List.mem_flatMap.mp ht
  obtain ⟨u, hu, rfl⟩ := List.mem_map.mp hts
  obtain ⟨s0, hs0, rfl⟩ := List.mem_map.mp hs
  obtain ⟨u0, hu0, rfl⟩ := List.mem_map.mp hu
  have h1 := Dg.le hl h s0 hs0 j
  have h2 := Dg.le hm h' u0 hu0 j
  have e2 : g j = s0.1.getD j 0 + u0.1.getD j 0 := by rw [← e]; rfl
  omega
theorem Dg.C {e : Nat} {p : Po.P} (h : Dg e p) (c : Rat) : Dg e (Po.C c * p) := fun g hg j => by
  rw [Po.co_Cmul] at hg
  exact h g (fun z => hg (by rw [z, Rat.mul_zero])) j
theorem Dg.zero (e : Nat) : Dg e 0 := fun g hg j => absurd (Po.co_zero g) hg
theorem Dg.Act {e n : Nat} {q : Po.P} (h : Dg e q) : ∀ l : Po.L, Dg e (Po.ActL n l q)
  | [] => Dg.zero e
  | t :: l => by
    have := (((h.Dm n t.1).C t.2).add (Dg.Act (n := n) h l))
    rw [Nat.max_self] at this
    exact this
end Q
set_option Elab.async false
set_option linter.all false
set_option maxRecDepth 100000
set_option maxHeartbeats 4000000
set_option exponentiation.threshold 20000
namespace Po
def Act (n : Nat) (p q : P) : P := Quotient.lift (fun l => ActL n l q) (fun l m (h : ∀ g, sem l g = sem m g) => Act_congr (cls_eq.mpr h) q) p
theorem Act_cls (n : Nat) (l : L) (q : P) : Act n (cls l) q = ActL n l q := rfl
theorem Act_add_left (n : Nat) (p p' q : P) : Act n (p + p') q = Act n p q + Act n p' q := by
  induction p using Quotient.ind with
  | _ l =>
    induction p' using Quotient.ind with
    | _ m => exact Act_append n l m q
/-- a polynomial with a list of terms without negative exponents -/
def Nn (p : P) : Prop := ∃ l : L, (∀ t ∈ l, ∀ i, 0 ≤ t.1 i) ∧ cls l = p
theorem Act_mul_left {n : Nat} {p p' : P} (h : Nn p) (h' : Nn p') (q : P) : Act n (p * p') q = Act n p (Act n p' q) := by
  obtain ⟨l, hl, rfl⟩ := h
  obtain ⟨m, hm, rfl⟩ := h'
  exact Act_mul hl hm q
end Po
namespace Q
open PySem PySem.Spec Fw
open L2 (Key)
theorem Pg.nn {n w T : Nat} {d : PyData} {p : Po.P} (h : Pg n w T d p) : Po.Nn p := by
  obtain ⟨l, hl, rfl, _, rfl⟩ := h
  refine ⟨mth l, fun t ht i => ?_, rfl⟩
  obtain ⟨u, hu, rfl⟩ := List.mem_map.mp ht
  have := nat_at (hl.ok u hu).nn i
  show 0 ≤ u.1.getD i 0
  omega
section
variable {n w1 w T1 T e b : Nat} {x y : PyData} {p q : Po.P}
theorem k_lacted (hx : Pg n w1 T1 x p) (hy : Pg n w T y q) (hd : Dg e q) (hp : Dg b p) (he : e ≤ 1000) (hn : 1 ≤ n) (hn2 : n ≤ 1000) (hb2 : b ≤ 1000) (hw : w1 + w + 30 * b * n + 20 + 20 * T1 ≤ 990) (hT : T1 * T ≤ 900000) (hTT : T ≤ 900000) (st : Sto) :
    ∃ r, φ__law_acted [.p x, .p y] st = .ok (.p r) st ∧ Pg n (w1 + w + 30 * b * n + 20 + 20 * T1) (T1 * T) r (Po.Act n p q) := by
  obtain ⟨r, l, h1, h2, h3, _⟩ := g_lacted hx hy hd hp he hn hn2 hb2 hw hT hTT st
  refine ⟨r, h1, ?_⟩
  rw [← h3]
  exact h2
theorem k_by_slopes (hx : Pg n w1 T1 x p) (hy : Pg n w T y q) (hd : Dg e q) (hp : Dg b p) (he : e ≤ 1000) (hn : 1 ≤ n) (hn2 : n ≤ 1000) (hb2 : b ≤ 1000) (hw : w1 + w + 30 * b * n + 20 + 21 * T1 ≤ 990) (hT : T1 * T ≤ 900000) (hTT : T ≤ 900000) (hT1 : T1 ≤ 1000000) (st : Sto) :
    ∃ r, φ_by_slopes [.p x, .p y, .p (.int n)] st = .ok (.p r) st ∧ Pg n (w1 + w + 30 * b * n + 20 + 21 * T1) (T1 * T) r (Po.Act n p q) := by
  obtain ⟨r, l, h1, h2, h3⟩ := g_by_slopes hx hy hd hp he hn hn2 hb2 hw hT hTT hT1 st
  refine ⟨r, h1, ?_⟩
  rw [← h3]
  exact h2
theorem k_acted (hx : Pg n w1 T1 x p) (hy : Pg n w T y q) (hd : Dg e q) (hp : Dg b p) (he : e ≤ 1000) (hn : 1 ≤ n) (hn2 : n ≤ 1000) (hb2 : b ≤ 1000) (hbn : 10 * b * n ≤ 900) (hw : w1 + w + 10 * b * n + 20 + 21 * T1 ≤ 900) (hT : T1 * T ≤ 900000) (hTT : T ≤ 900000) (hT1 : T1 ≤ 1000000) (st : Sto) :
    ∃ r, φ_acted [.p x, .p y, .p (.int n)] st = .ok (.p r) st ∧ Pg n (w1 + w + 10 * b * n + 20 + 21 * T1) (T1 * T) r (Po.Act n p q) := by
  obtain ⟨r, l, h1, h2, h3, _⟩ := g_acted hx hy hd hp he hn hn2 hb2 hbn hw hT hTT hT1 st
  refine ⟨r, h1, ?_⟩
  rw [← h3]
  exact h2
end
theorem Dg.AAct {e n : Nat} {p q : Po.P} (h : Dg e q) : Dg e (Po.Act n p q) := by
  induction p using Quotient.ind with
  | _ l => exact Dg.Act h l
theorem k_same {c : Nat} {d e : PyData} {p : Po.P} {w T w' T' : Nat} (h : Pg c w T d p) (h' : Pg c w' T' e p) (hc : c ≤ 1000) (hT : T' ≤ 1000000) (st : Sto) : φ__law_same 9 [.p d, .p e] st = .ok (.p (.bool true)) st := e_same (Sm.poly (m := 5) h h' (by omega) hT) st
/-! ## one monomial -/
def mono (k : List Int) : Po.P := Po.cls [(fnE k, 1)]
theorem pg_mono {c : Nat} {k : List Int} (hk : k.length = c) (h0 : ∀ i ∈ k, 0 ≤ i) : Pg c 1 1 (.tuple [.tuple [tupI k, .tuple [.int 1, .int 1]]]) (mono k) := by
  refine ⟨[(k, .tuple [.int 1, .int 1], 1)], ⟨fun t ht => ?_, fun t ht => ?_, by simp⟩, rfl, by simp, rfl⟩
  · rw [List.mem_singleton.mp ht]
    exact ⟨hk, h0, rfl, Sz.int 1 (by decide)⟩
  · rw [List.mem_singleton.mp ht]
    show (1 : Rat) ≠ 0
    decide
theorem dg_mono {k : List Int} {b : Nat} (h : ∀ i ∈ k, i ≤ (b : Int)) : Dg b (mono k) := Dg.cls (l := [(k, .none, 1)]) fun t ht i hi => by
  rw [List.mem_singleton.mp ht] at hi
  exact h i hi
/-- a monomial acts on a monomial -/
theorem act_mono {n : Nat} {a t : List Int} : Po.Act n (mono a) (mono t) = Po.cls [(Po.low n (fnE t) (fnE a), (Po.fall n (fnE t) (fnE a) : Rat))] := by
  have h1 : Po.Act n (mono a) (mono t) = Po.C 1 * Po.Dm n (fnE a) (mono t) + 0 := rfl
  have h2 : Po.Dm n (fnE a) (mono t) = Po.cls [(Po.low n (fnE t) (fnE a), 1 * (Po.fall n (fnE t) (fnE a) : Rat))] := Po.Dm_cls n (fnE a) [(fnE t, 1)]
  rw [h1, h2, Rat.one_mul, Po.C_one_mul]
  grind
theorem cls_zero (g : Po.G) : Po.cls [(g, 0)] = 0 := Po.ext fun k => by
  have z : Po.sem ([] : Po.L) k = 0 := rfl
  rw [Po.co_cls, Po.co_zero, Po.sem, z]
  split <;> exact Rat.add_zero _
theorem act_mono_zero {n : Nat} {a t : List Int} (ht : t.length = n) (ha : a.length = n) (t0 : ∀ i ∈ t, 0 ≤ i) (h : ¬ dvd a t = true) : Po.Act n (mono a) (mono t) = 0 := by
  rw [act_mono, ndvd_fall ht ha t0 h]
  exact cls_zero _
/-! ## the least of ints -/
theorem alike_i (i j : Int) : PySem.W.alike (.int i) (.int j) = true := rfl
theorem plain_ints : ∀ k : List Int, PyData.plainAll (k.map PyData.int) = true
  | [] => rfl
  | i :: k => by
    show ((PyData.int i).plain && PyData.plainAll (k.map PyData.int)) = true
    rw [plain_ints k]
    rfl
theorem alikeB_ints (k : List Int) : alikeB (k.map PyData.int) = true := by
  unfold alikeB
  rw [plain_ints, Bool.true_and, List.all_eq_true]
  intro x hx
  obtain ⟨i, _, rfl⟩ := List.mem_map.mp hx
  rw [Bool.and_eq_true, List.all_eq_true]
  refine ⟨rfl, fun y hy => ?_⟩
  obtain ⟨j, _, rfl⟩ := List.mem_map.mp hy
  exact alike_i i j
theorem min_ev (i : Int) (k : List Int) : best1 false (tupI (i :: k)) = some (.int (k.foldl min i)) := by
  show (if alikeB ((i :: k).map PyData.int) = true ∧ PyData.depthAll ((i :: k).map PyData.int) ≤ 60 then some (if false = true then PySem.W.maxD (.int i) (k.map .int) else PySem.W.minD (.int i) (k.map .int)) else none) = _
  have := depth_ints (i :: k)
  rw [if_pos ⟨alikeB_ints _, by omega⟩, if_neg Bool.false_ne_true, PySem.W.minD_ints]
theorem foldl_min {k : List Int} : ∀ {i : Int}, 0 ≤ k.foldl min i ↔ 0 ≤ i ∧ ∀ j ∈ k, 0 ≤ j := by
  induction k with
  | nil => intro i; simp
  | cons j k ih =>
    intro i
    rw [List.foldl_cons, ih]
    simp only [List.mem_cons, forall_eq_or_imp]
    constructor
    · rintro ⟨a, b⟩
      exact ⟨by omega, by omega, b⟩
    · rintro ⟨a, b, c⟩
      exact ⟨by omega, c⟩
end Q
set_option Elab.async false
set_option linter.all false
set_option maxRecDepth 100000
set_option maxHeartbeats 4000000
namespace Q
open PySem PySem.Spec Fw
def isa0 : Nat → Nat → Option Bool := fun c d => if c = 0 ∧ d = 0 then some true else if c = 0 ∧ d = 1 then some false else if c = 1 ∧ d = 0 then some false else if c = 1 ∧ d = 1 then some true else none
def q0 : MS := sAsg (.nm 1) (mCall (aCons (mVar 0) (aNil)) (sized 1 φ__law_tape))
def q1 : MS := sAsg (.nm 2) (m2 (mC (.int 1)) (mCall (aCons (mVar 1) (aCons (mC (.int 3)) (aNil))) (sized 2 φ__law_draw)) (lift2 1 addP))
def q2 : MS := sPar [10, 11, 12] (aCons (mCall (aCons (mVar 1) (aCons (mVar 2) (aCons (mC (.int 3)) (aCons (mC (.int 3)) (aNil))))) (sized 4 φ__law_poly)) (aCons (mCall (aCons (mVar 1) (aCons (mVar 2) (aCons (mC (.int 2)) (aCons (mC (.int 2)) (aNil))))) (sized 4 φ__law_poly)) (aCons (mCall (aCons (mVar 1) (aCons (mVar 2) (aCons (mC (.int 4)) (aCons (mC (.int 4)) (aNil))))) (sized 4 φ__law_poly)) (aNil))))
def q3 : MS := sAsg (.nm 3) (mCall (aCons (mVar 10) (aCons (mVar 12) (aNil))) (sized 2 φ__law_acted))
def q4 : MS := sIf (tOrr (tNt (tV (mCall (aCons (mCall (aCons (mVar 10) (aCons (mVar 12) (aCons (mVar 2) (aNil)))) (sized 3 φ_acted)) (aCons (mVar 3) (aNil))) (sized 2 (φ__law_same 9))))) (tNt (tV (mCall (aCons (mCall (aCons (mVar 10) (aCons (mVar 12) (aCons (mVar 2) (aNil)))) (sized 3 φ_by_slopes)) (aCons (mVar 3) (aNil))) (sized 2 (φ__law_same 9)))))) (sSeq (sRet (mC (.bool false)))
    (sNil)) (sNil)
def q5 : MS := sIf (tNt (tV (mCall (aCons (mCall (aCons (mCall (aCons (mVar 10) (aCons (mVar 11) (aNil))) (sized 2 φ__law_total)) (aCons (mVar 12) (aCons (mVar 2) (aNil)))) (sized 3 φ_acted)) (aCons (mCall (aCons (mVar 3) (aCons (mCall (aCons (mVar 11) (aCons (mVar 12) (aNil))) (sized 2 φ__law_acted)) (aNil))) (sized 2 φ__law_total)) (aNil))) (sized 2 (φ__law_same 9))))) (sSeq (sRet (mC (.bool false)))
    (sNil)) (sNil)
def q6 : MS := sAsg (.nm 4) (mCall (aCons (mVar 10) (aCons (mCall (aCons (mVar 11) (aCons (mVar 12) (aNil))) (sized 2 φ__law_acted)) (aNil))) (sized 2 φ__law_acted))
def q7 : MS := sIf (tOrr (tNt (tV (mCall (aCons (mCall (aCons (mVar 10) (aCons (mVar 11) (aCons (mVar 12) (aCons (mVar 2) (aNil))))) (sized 4 φ_product_rule)) (aCons (mVar 4) (aNil))) (sized 2 (φ__law_same 9))))) (tNt (tV (mCall (aCons (mCall (aCons (mVar 10) (aCons (mCall (aCons (mVar 11) (aCons (mVar 12) (aCons (mVar 2) (aNil)))) (sized 3 φ_acted)) (aCons (mVar 2) (aNil)))) (sized 3 φ_acted)) (aCons (mVar 4) (aNil))) (sized 2 (φ__law_same 9)))))) (sSeq (sRet (mC (.bool false)))
    (sNil)) (sNil)
def q8 : MS := sAsg (.tp (.cons (.nm 13) (.cons (.nm 14) .nil))) (mL (aCons (mCall (aCons (mVar 1) (aCons (mVar 2) (aCons (mC (.int 5)) (aNil)))) (sized 3 φ__law_term)) (aCons (mCall (aCons (mVar 1) (aCons (mVar 2) (aCons (mC (.int 4)) (aNil)))) (sized 3 φ__law_term)) (aNil))) gTupD)
def q9 : MS := sAsg (.nm 5) (mC (.int 1))
def q10 : MS := sFor (iArgs (aCons (mVar 2) (aNil)) rng1) (.nm 6) (sSeq (sFor (iArgs (aCons (m2 (mVar 14) (mVar 6) ixG) (aNil)) rng1) (.nm 15) (sSeq (sAsg (.nm 5) (m2 (mVar 5) (m2 (m2 (mVar 13) (mVar 6) ixG) (mVar 15) (lift2 1 subP)) (lift2 1 mulP)))
    (sNil)))
    (sNil))
def q11 : MS := sIf (tNt (tV (mCall (aCons (mCall (aCons (mVar 13) (aCons (mVar 14) (aNil))) (sized 2 φ_falls)) (aCons (mVar 5) (aNil))) (sized 2 (φ__law_same 9))))) (sSeq (sRet (mC (.bool false)))
    (sNil)) (sNil)
def q12 : MS := sAsg (.nm 7) (mL (aCons (mL (aCons (mVar 13) (aCons (mL (aCons (mC (.int 1)) (aCons (mC (.int 1)) (aNil))) gTupD) (aNil))) gTupD) (aNil)) gTupD)
def q13 : MS := sAsg (.nm 8) (mL (aCons (mComp false (iArgs (aCons (mVar 2) (aNil)) rng1) (.nm 6) [6] (tTr) (m2 (m2 (mVar 13) (mVar 6) ixG) (m2 (mVar 14) (mVar 6) ixG) (lift2 1 subP))) (aNil)) (gL1 (lift1 1 tupP)))
def q14 : MS := sAsg (.nm 3) (mIf (tB (m2 (mL (aCons (mVar 8) (aNil)) (gL1 (lift1 1 (best1 false)))) (mC (.int 0)) (lift2 3 geP))) (mCall (aCons (mL (aCons (mL (aCons (mVar 8) (aCons (mL (aCons (mVar 5) (aCons (mC (.int 1)) (aNil))) gTupD) (aNil))) gTupD) (aNil)) gLstD) (aNil)) (sized 1 φ__law_gather)) (mL (aNil) gTupD))
def q15 : MS := sIf (tNt (tV (mCall (aCons (mCall (aCons (mL (aCons (mL (aCons (mVar 14) (aCons (mL (aCons (mC (.int 1)) (aCons (mC (.int 1)) (aNil))) gTupD) (aNil))) gTupD) (aNil)) gTupD) (aCons (mVar 7) (aCons (mVar 2) (aNil)))) (sized 3 φ_acted)) (aCons (mVar 3) (aNil))) (sized 2 (φ__law_same 9))))) (sSeq (sRet (mC (.bool false)))
    (sNil)) (sNil)
def q16 : MS := sAsg (.nm 9) (mL (aCons (mComp false (iArgs (aCons (mVar 2) (aNil)) rng1) (.nm 6) [6] (tTr) (m2 (m2 (mVar 13) (mVar 6) ixG) (mIf (tB (m2 (mVar 6) (mC (.int 0)) (lift2 3 eqP))) (mC (.int 1)) (mC (.int 0))) (lift2 1 addP))) (aNil)) (gL1 (lift1 1 tupP)))
def q17 : MS := sRet (mCall (aCons (mCall (aCons (mL (aCons (mL (aCons (mVar 9) (aCons (mL (aCons (mC (.int 1)) (aCons (mC (.int 1)) (aNil))) gTupD) (aNil))) gTupD) (aNil)) gTupD) (aCons (mVar 7) (aCons (mVar 2) (aNil)))) (sized 3 φ_acted)) (aCons (mL (aNil) gTupD) (aNil))) (sized 2 (φ__law_same 9)))
def N_law : List Str := ["script", "tape", "count", "due", "twice", "number", "k", "poly", "left", "greater", "one", "mate", "other", "first", "last", "step"]
def m_law : MS :=
    sSeq q0 (sSeq q1 (sSeq q2 (sSeq q3 (sSeq q4 (sSeq q5 (sSeq q6 (sSeq q7 (sSeq q8 (sSeq q9 (sSeq q10 (sSeq q11 (sSeq q12 (sSeq q13 (sSeq q14 (sSeq q15 (sSeq q16 (sSeq q17 (sNil))))))))))))))))))
def φ_law : List D → M D := fnDen N_law m_law

end Q
set_option Elab.async false
set_option linter.all false
set_option maxRecDepth 100000
set_option maxHeartbeats 4000000
set_option exponentiation.threshold 20000
namespace Q
open PySem PySem.Spec Fw
open L2 (Key)
abbrev pI (n : Nat) : Option D := some (.p (.int n))
abbrev pZ (n : Int) : Option D := some (.p (.int n))
abbrev pP (x : PyData) : Option D := some (.p x)
section
variable {x : D} {st st1 st2 st3 : Sto} {c : Nat} {a b d e f g r u v y z : PyData}
theorem s_q0 (h : φ__law_tape [x] st = .ok (.loc 1) st1) : q0 [some x, none, none, none, none, none, none, none, none, none, none, none, none, none, none, none] st = .nx [some x, some (.loc 1), none, none, none, none, none, none, none, none, none, none, none, none, none, none] st1 := by
  unfold q0
  generalize φ__law_tape = F at *
  simp [h]
theorem s_q1 (h : Tp [] st) : ∃ c st1, q1 [some x, some (.loc 1), none, none, none, none, none, none, none, none, none, none, none, none, none, none] st = .nx [some x, some (.loc 1), pI c, none, none, none, none, none, none, none, none, none, none, none, none, none] st1 ∧ (1 ≤ c ∧ c ≤ 3) ∧ Tp [] st1 := by
  obtain ⟨k, st1, h1, h2, h3⟩ := e_draw h (many := 3) (by decide) (by decide)
  refine ⟨1 + k, st1, ?_, by omega, h3⟩
  have e1 : ((1 + k : Nat) : Int) = 1 + (k : Int) := by omega
  unfold pI
  rw [e1]
  unfold q1
  generalize φ__law_draw = F at *
  simp [h1]
theorem c_q2 {F : List D → Fw.M D} (h1 : F [.loc 1, .p (.int c), .p (.int 3), .p (.int 3)] st = .ok (.p a) st1) (h2 : F [.loc 1, .p (.int c), .p (.int 2), .p (.int 2)] st1 = .ok (.p b) st2) (h3 : F [.loc 1, .p (.int c), .p (.int 4), .p (.int 4)] st2 = .ok (.p d) st3) :
    sPar [10, 11, 12] (aCons (mCall (aCons (mVar 1) (aCons (mVar 2) (aCons (mC (.int 3)) (aCons (mC (.int 3)) (aNil))))) (sized 4 F)) (aCons (mCall (aCons (mVar 1) (aCons (mVar 2) (aCons (mC (.int 2)) (aCons (mC (.int 2)) (aNil))))) (sized 4 F)) (aCons (mCall (aCons (mVar 1) (aCons (mVar 2) (aCons (mC (.int 4)) (aCons (mC (.int 4)) (aNil))))) (sized 4 F)) (aNil)))) [some x, some (.loc 1), pI c, none, none, none, none, none, none, none, none, none, none, none, none, none] st = .nx [some x, some (.loc 1), pI c, none, none, none, none, none, none, none, pP a, pP b, pP d, none, none, none] st3 := by
  simp [h1, h2, h3]
theorem s_q2 (h1 : φ__law_poly [.loc 1, .p (.int c), .p (.int 3), .p (.int 3)] st = .ok (.p a) st1) (h2 : φ__law_poly [.loc 1, .p (.int c), .p (.int 2), .p (.int 2)] st1 = .ok (.p b) st2) (h3 : φ__law_poly [.loc 1, .p (.int c), .p (.int 4), .p (.int 4)] st2 = .ok (.p d) st3) : q2 [some x, some (.loc 1), pI c, none, none, none, none, none, none, none, none, none, none, none, none, none] st = .nx [some x, some (.loc 1), pI c, none, none, none, none, none, none, none, pP a, pP b, pP d, none, none, none] st3 := c_q2 h1 h2 h3
theorem c_q3 {F : List D → Fw.M D} (h : F [.p a, .p d] st = .ok (.p u) st) : sAsg (.nm 3) (mCall (aCons (mVar 10) (aCons (mVar 12) (aNil))) (sized 2 F)) [some x, some (.loc 1), pI c, none, none, none, none, none, none, none, pP a, pP b, pP d, none, none, none] st = .nx [some x, some (.loc 1), pI c, pP u, none, none, none, none, none, none, pP a, pP b, pP d, none, none, none] st := by
  simp [h]
theorem s_q3 (h : φ__law_acted [.p a, .p d] st = .ok (.p u) st) : q3 [some x, some (.loc 1), pI c, none, none, none, none, none, none, none, pP a, pP b, pP d, none, none, none] st = .nx [some x, some (.loc 1), pI c, pP u, none, none, none, none, none, none, pP a, pP b, pP d, none, none, none] st := c_q3 h
theorem c_q4 {ac bs sm : List D → Fw.M D} (h1 : ac [.p a, .p d, .p (.int c)] st = .ok (.p v) st) (h2 : sm [.p v, .p u] st = .ok (.p (.bool true)) st) (h3 : bs [.p a, .p d, .p (.int c)] st = .ok (.p y) st) (h4 : sm [.p y, .p u] st = .ok (.p (.bool true)) st) :
    sIf (tOrr (tNt (tV (mCall (aCons (mCall (aCons (mVar 10) (aCons (mVar 12) (aCons (mVar 2) (aNil)))) (sized 3 ac)) (aCons (mVar 3) (aNil))) (sized 2 sm)))) (tNt (tV (mCall (aCons (mCall (aCons (mVar 10) (aCons (mVar 12) (aCons (mVar 2) (aNil)))) (sized 3 bs)) (aCons (mVar 3) (aNil))) (sized 2 sm))))) (sSeq (sRet (mC (.bool false)))
    (sNil)) (sNil) [some x, some (.loc 1), pI c, pP u, none, none, none, none, none, none, pP a, pP b, pP d, none, none, none] st = .nx [some x, some (.loc 1), pI c, pP u, none, none, none, none, none, none, pP a, pP b, pP d, none, none, none] st := by
  simp [h1, h2, h3, h4]
theorem s_q4 (h1 : φ_acted [.p a, .p d, .p (.int c)] st = .ok (.p v) st) (h2 : φ__law_same 9 [.p v, .p u] st = .ok (.p (.bool true)) st) (h3 : φ_by_slopes [.p a, .p d, .p (.int c)] st = .ok (.p y) st) (h4 : φ__law_same 9 [.p y, .p u] st = .ok (.p (.bool true)) st) : q4 [some x, some (.loc 1), pI c, pP u, none, none, none, none, none, none, pP a, pP b, pP d, none, none, none] st = .nx [some x, some (.loc 1), pI c, pP u, none, none, none, none, none, none, pP a, pP b, pP d, none, none, none] st := c_q4 h1 h2 h3 h4
theorem c_q5 {ac tt la sm : List D → Fw.M D} (h1 : tt [.p a, .p b] st = .ok (.p v) st) (h2 : ac [.p v, .p d, .p (.int c)] st = .ok (.p y) st) (h3 : la [.p b, .p d] st = .ok (.p z) st) (h4 : tt [.p u, .p z] st = .ok (.p r) st) (h5 : sm [.p y, .p r] st = .ok (.p (.bool true)) st) :
    sIf (tNt (tV (mCall (aCons (mCall (aCons (mCall (aCons (mVar 10) (aCons (mVar 11) (aNil))) (sized 2 tt)) (aCons (mVar 12) (aCons (mVar 2) (aNil)))) (sized 3 ac)) (aCons (mCall (aCons (mVar 3) (aCons (mCall (aCons (mVar 11) (aCons (mVar 12) (aNil))) (sized 2 la)) (aNil))) (sized 2 tt)) (aNil))) (sized 2 sm)))) (sSeq (sRet (mC (.bool false)))
    (sNil)) (sNil) [some x, some (.loc 1), pI c, pP u, none, none, none, none, none, none, pP a, pP b, pP d, none, none, none] st = .nx [some x, some (.loc 1), pI c, pP u, none, none, none, none, none, none, pP a, pP b, pP d, none, none, none] st := by
  simp [h1, h2, h3, h4, h5]
theorem s_q5 (h1 : φ__law_total [.p a, .p b] st = .ok (.p v) st) (h2 : φ_acted [.p v, .p d, .p (.int c)] st = .ok (.p y) st) (h3 : φ__law_acted [.p b, .p d] st = .ok (.p z) st) (h4 : φ__law_total [.p u, .p z] st = .ok (.p r) st) (h5 : φ__law_same 9 [.p y, .p r] st = .ok (.p (.bool true)) st) : q5 [some x, some (.loc 1), pI c, pP u, none, none, none, none, none, none, pP a, pP b, pP d, none, none, none] st = .nx [some x, some (.loc 1), pI c, pP u, none, none, none, none, none, none, pP a, pP b, pP d, none, none, none] st := c_q5 h1 h2 h3 h4 h5
theorem c_q6 {la : List D → Fw.M D} (h1 : la [.p b, .p d] st = .ok (.p y) st) (h2 : la [.p a, .p y] st = .ok (.p v) st) : sAsg (.nm 4) (mCall (aCons (mVar 10) (aCons (mCall (aCons (mVar 11) (aCons (mVar 12) (aNil))) (sized 2 la)) (aNil))) (sized 2 la)) [some x, some (.loc 1), pI c, pP u, none, none, none, none, none, none, pP a, pP b, pP d, none, none, none] st = .nx [some x, some (.loc 1), pI c, pP u, pP v, none, none, none, none, none, pP a, pP b, pP d, none, none, none] st := by
  simp [h1, h2]
theorem s_q6 (h1 : φ__law_acted [.p b, .p d] st = .ok (.p y) st) (h2 : φ__law_acted [.p a, .p y] st = .ok (.p v) st) : q6 [some x, some (.loc 1), pI c, pP u, none, none, none, none, none, none, pP a, pP b, pP d, none, none, none] st = .nx [some x, some (.loc 1), pI c, pP u, pP v, none, none, none, none, none, pP a, pP b, pP d, none, none, none] st := c_q6 h1 h2
theorem c_q7 {pr ac sm : List D → Fw.M D} (h1 : pr [.p a, .p b, .p d, .p (.int c)] st = .ok (.p y) st) (h2 : sm [.p y, .p v] st = .ok (.p (.bool true)) st) (h3 : ac [.p b, .p d, .p (.int c)] st = .ok (.p z) st) (h4 : ac [.p a, .p z, .p (.int c)] st = .ok (.p r) st) (h5 : sm [.p r, .p v] st = .ok (.p (.bool true)) st) :
    sIf (tOrr (tNt (tV (mCall (aCons (mCall (aCons (mVar 10) (aCons (mVar 11) (aCons (mVar 12) (aCons (mVar 2) (aNil))))) (sized 4 pr)) (aCons (mVar 4) (aNil))) (sized 2 sm)))) (tNt (tV (mCall (aCons (mCall (aCons (mVar 10) (aCons (mCall (aCons (mVar 11) (aCons (mVar 12) (aCons (mVar 2) (aNil)))) (sized 3 ac)) (aCons (mVar 2) (aNil)))) (sized 3 ac)) (aCons (mVar 4) (aNil))) (sized 2 sm))))) (sSeq (sRet (mC (.bool false)))
    (sNil)) (sNil) [some x, some (.loc 1), pI c, pP u, pP v, none, none, none, none, none, pP a, pP b, pP d, none, none, none] st = .nx [some x, some (.loc 1), pI c, pP u, pP v, none, none, none, none, none, pP a, pP b, pP d, none, none, none] st := by
  simp [h1, h2, h3, h4, h5]
theorem s_q7 (h1 : φ_product_rule [.p a, .p b, .p d, .p (.int c)] st = .ok (.p y) st) (h2 : φ__law_same 9 [.p y, .p v] st = .ok (.p (.bool true)) st) (h3 : φ_acted [.p b, .p d, .p (.int c)] st = .ok (.p z) st) (h4 : φ_acted [.p a, .p z, .p (.int c)] st = .ok (.p r) st) (h5 : φ__law_same 9 [.p r, .p v] st = .ok (.p (.bool true)) st) : q7 [some x, some (.loc 1), pI c, pP u, pP v, none, none, none, none, none, pP a, pP b, pP d, none, none, none] st = .nx [some x, some (.loc 1), pI c, pP u, pP v, none, none, none, none, none, pP a, pP b, pP d, none, none, none] st := c_q7 h1 h2 h3 h4 h5
theorem c_q8a {lt : List D → Fw.M D} (h1 : lt [.loc 1, .p (.int c), .p (.int 5)] st = .ok (.p f) st1) (h2 : lt [.loc 1, .p (.int c), .p (.int 4)] st1 = .ok (.p g) st2) : mL (aCons (mCall (aCons (mVar 1) (aCons (mVar 2) (aCons (mC (.int 5)) (aNil)))) (sized 3 lt)) (aCons (mCall (aCons (mVar 1) (aCons (mVar 2) (aCons (mC (.int 4)) (aNil)))) (sized 3 lt)) (aNil))) gTupD [some x, some (.loc 1), pI c, pP u, pP v, none, none, none, none, none, pP a, pP b, pP d, none, none, none] st = .ok (.p (.tuple [f, g])) st2 := by
  simp [h1, h2]
theorem asg_ok {gg : G} {ma : Env' → M D} {env env' : Env'} {d : D} (h : ma env st = .ok d st1) (hg : gSet gg d env = some env') : sAsg gg ma env st = .nx env' st1 := by
  rw [ev_sAsg, ev_sbnd, h]
  simp only [hg]
theorem s_q8 (h1 : φ__law_term [.loc 1, .p (.int c), .p (.int 5)] st = .ok (.p f) st1) (h2 : φ__law_term [.loc 1, .p (.int c), .p (.int 4)] st1 = .ok (.p g) st2) : q8 [some x, some (.loc 1), pI c, pP u, pP v, none, none, none, none, none, pP a, pP b, pP d, none, none, none] st = .nx [some x, some (.loc 1), pI c, pP u, pP v, none, none, none, none, none, pP a, pP b, pP d, pP f, pP g, none] st2 := asg_ok (c_q8a h1 h2) (by simp)
theorem s_q9 : q9 [some x, some (.loc 1), pI c, pP u, pP v, none, none, none, none, none, pP a, pP b, pP d, pP f, pP g, none] st = .nx [some x, some (.loc 1), pI c, pP u, pP v, pZ 1, none, none, none, none, pP a, pP b, pP d, pP f, pP g, none] st := by
  simp [q9]
end
end Q
set_option Elab.async false
set_option linter.all false
set_option maxRecDepth 100000
set_option maxHeartbeats 4000000
set_option exponentiation.threshold 20000
namespace Q
open PySem PySem.Spec Fw
open L2 (Key)
section
variable {x : D} {st st1 st2 st3 : Sto} {c : Nat} {a b d e r u v y z : PyData} {f g : List Int}
abbrev eN (x : D) (c : Nat) (u v a b d : PyData) (f g : List Int) (m : Int) (k s : Option D) : Env' := [some x, some (.loc 1), pI c, pP u, pP v, pZ m, k, none, none, none, pP a, pP b, pP d, pP (tupI f), pP (tupI g), s]
theorem mulP_s {i j : Int} {N : Nat} (h1 : i.natAbs ≤ 2 ^ N) (hN : N ≤ 9000) (h2 : j.natAbs ≤ 2 ^ 10) : mulP (.int i) (.int j) = some (.int (i * j)) :=
  ev_mulI (mulOk_of (N := N + 1) (M := 11) (Nat.lt_of_le_of_lt h1 (Nat.pow_lt_pow_right (by decide) (by omega))) (Nat.lt_of_le_of_lt h2 (by decide)) (by omega))
theorem nb_in {k m N : Nat} {i : Int} {s : Option D} (hf : i.natAbs ≤ 2 ^ N) (hk : k < f.length) (h0 : 0 ≤ f.getD k 0) (h1 : f.getD k 0 ≤ 1000) (hm : m ≤ 1000) (hN : N + 10 * m ≤ 9000) {mi : Env' → M Src} (st : Sto) (hmi : mi (eN x c u v a b d f g i (pI k) s) st = .ok (.fix ((List.range m).map fun (j : Nat) => .p (.int j))) st) :
    ∃ s', sFor mi (.nm 15) (sSeq (sAsg (.nm 5) (m2 (mVar 5) (m2 (m2 (mVar 13) (mVar 6) ixG) (mVar 15) (lift2 1 subP)) (lift2 1 mulP)))
    (sNil)) (eN x c u v a b d f g i (pI k) s) st = .nx (eN x c u v a b d f g (i * Po.fallK (f.getD k 0) m) (pI k) s') st := by
  obtain ⟨env', st', h3, s', e1, e2⟩ := for_inv (mi := mi) (g := .nm 15) (b := sSeq (sAsg (.nm 5) (m2 (mVar 5) (m2 (m2 (mVar 13) (mVar 6) ixG) (mVar 15) (lift2 1 subP)) (lift2 1 mulP)))
    (sNil)) (env := eN x c u v a b d f g i (pI k) s) (st := st) (src := .fix ((List.range m).map fun (j : Nat) => .p (.int j)))
    (fun n env z => ∃ s, env = eN x c u v a b d f g (i * Po.fallK (f.getD k 0) n) (pI k) s ∧ z = st) hmi ⟨s, by show _ = eN x c u v a b d f g (i * 1) _ _; rw [Int.mul_one], rfl⟩ (fun _ _ _ _ => rfl) fun n x' env z hx ⟨s, e1, e2⟩ => by
      obtain ⟨him, rfl⟩ := range_get hx
      subst e1 e2
      have hb := fallK_bd h0 h1 (m := n) (by omega)
      have hfb : (i * Po.fallK (f.getD k 0) n).natAbs ≤ 2 ^ (N + 10 * n) := by
        rw [Int.natAbs_mul, Nat.pow_add]
        exact Nat.mul_le_mul hf hb
      have hm := mulP_s hfb (by omega) (j := f.getD k 0 - (n : Int)) (by show _ ≤ 1024; omega)
      have i1 := fun st => ix_tupI (st := st) hk
      have e : i * Po.fallK (f.getD k 0) (n + 1) = i * Po.fallK (f.getD k 0) n * (f.getD k 0 - (n : Int)) := by rw [Po.fallK, Int.mul_assoc]
      refine ⟨eN x c u v a b d f g (i * Po.fallK (f.getD k 0) n) (pI k) (pI n), by simp [eN], eN x c u v a b d f g (i * Po.fallK (f.getD k 0) (n + 1)) (pI k) (pI n), z, .inl ?_, _, rfl, rfl⟩
      rw [e]
      generalize i * Po.fallK (f.getD k 0) n = y at *
      generalize f.getD k 0 = w at *
      simp [eN, hm, i1]
  rw [e1, e2] at h3
  rw [show (List.map (fun (j : Nat) => D.p (.int j)) (List.range m)).length = m by simp] at h3
  exact ⟨s', h3⟩
theorem s_q10 (hf : f.length = c) (hg : g.length = c) (f0 : ∀ i ∈ f, 0 ≤ i ∧ i ≤ 5) (g0 : ∀ i ∈ g, 0 ≤ i ∧ i ≤ 4) (hc : c ≤ 3) (st : Sto) : ∃ k s, q10 (eN x c u v a b d f g 1 none none) st = .nx (eN x c u v a b d f g (Po.fall c (fnE f) (fnE g)) k s) st := by
  have fb : ∀ k, f.getD k 0 ≤ 5 := fun k => by
    rw [List.getD_eq_getElem?_getD]
    cases q : f[k]? with
    | none => decide
    | some y => exact (f0 y (List.mem_of_getElem? q)).2
  have gb : ∀ k, g.getD k 0 ≤ ((4 : Nat) : Int) := fun k => by
    rw [List.getD_eq_getElem?_getD]
    cases q : g[k]? with
    | none => decide
    | some y => exact (g0 y (List.mem_of_getElem? q)).2
  have fz := fun k => nat_at (fun i hi => (f0 i hi).1) k
  obtain ⟨env', st', h3, k, s, e1, e2⟩ := for_inv (mi := iArgs (aCons (mVar 2) (aNil)) rng1) (g := .nm 6) (b := sSeq (sFor (iArgs (aCons (m2 (mVar 14) (mVar 6) ixG) (aNil)) rng1) (.nm 15) (sSeq (sAsg (.nm 5) (m2 (mVar 5) (m2 (m2 (mVar 13) (mVar 6) ixG) (mVar 15) (lift2 1 subP)) (lift2 1 mulP)))
    (sNil)))
    (sNil)) (env := eN x c u v a b d f g 1 none none) (st := st) (src := .fix ((List.range c).map fun (j : Nat) => .p (.int j)))
    (fun n env z => ∃ k s, env = eN x c u v a b d f g (Po.fall n (fnE f) (fnE g)) k s ∧ z = st) (src_rng (n := c) (by simp [eN]) (by omega)) ⟨none, none, rfl, rfl⟩ (fun _ _ _ _ => rfl) fun n x' env z hx ⟨k, s, e1, e2⟩ => by
      obtain ⟨him, rfl⟩ := range_get hx
      subst e1 e2
      have i1 := fun st => ix_tupI (st := st) (a := g) (j := n) (by omega)
      have hna := nat_at (fun i hi => (g0 i hi).1) n
      have hgn := gb n
      rw [hna] at hgn
      simp only [hna] at i1
      have hbd := fall_bd (t := fnE f) (a := fnE g) (b := 4) (fn_bd (l := f) (b := 5) fb (fun i hi => (f0 i hi).1) (by decide)) gb (by decide) n
      have e : Po.fall (n + 1) (fnE f) (fnE g) = Po.fall n (fnE f) (fnE g) * Po.fallK (f.getD n 0) (fnE g n).toNat := rfl
      have hf5 := fb n
      have hf0 : 0 ≤ f.getD n 0 := by have := fz n; omega
      obtain ⟨s', g1⟩ := nb_in (x := x) (c := c) (u := u) (v := v) (a := a) (b := b) (d := d) (g := g) (k := n) (s := s) (m := (fnE g n).toNat) (mi := iArgs (aCons (m2 (mVar 14) (mVar 6) ixG) (aNil)) rng1) hbd (by omega) hf0 (by omega) (by omega) (by omega) z (src_rng (n := (fnE g n).toNat) (by simp [eN, i1]) (by omega))
      refine ⟨eN x c u v a b d f g (Po.fall n (fnE f) (fnE g)) (pI n) s, by simp [eN], eN x c u v a b d f g (Po.fall (n + 1) (fnE f) (fnE g)) (pI n) s', z, .inl ?_, _, _, rfl, rfl⟩
      rw [ev_sSeq, g1, e]
      rfl
  rw [e1, e2] at h3
  rw [show (List.map (fun (j : Nat) => D.p (.int j)) (List.range c)).length = c by simp] at h3
  exact ⟨k, s, h3⟩
end
end Q
set_option Elab.async false
set_option linter.all false
set_option maxRecDepth 100000
set_option maxHeartbeats 4000000
set_option exponentiation.threshold 20000
namespace Q
open PySem PySem.Spec Fw
open L2 (Key)
section
variable {x : D} {st st1 st2 st3 : Sto} {c : Nat} {a b d e r u v w y z : PyData} {f g : List Int}
abbrev eQ (x : D) (c : Nat) (u v a b d : PyData) (f g : List Int) (m : Int) (k p l q s : Option D) : Env' := [some x, some (.loc 1), pI c, pP u, pP v, pZ m, k, p, l, q, pP a, pP b, pP d, pP (tupI f), pP (tupI g), s]
def one1 (k : List Int) : PyData := .tuple [.tuple [tupI k, .tuple [.int 1, .int 1]]]
theorem c_q11 {fa sm : List D → Fw.M D} {m n : Int} {k s p l q : Option D} {tf tg : PyData} (h1 : fa [.p tf, .p tg] st = .ok (.p (.int n)) st) (h2 : sm [.p (.int n), .p (.int m)] st = .ok (.p (.bool true)) st) :
    sIf (tNt (tV (mCall (aCons (mCall (aCons (mVar 13) (aCons (mVar 14) (aNil))) (sized 2 fa)) (aCons (mVar 5) (aNil))) (sized 2 sm)))) (sSeq (sRet (mC (.bool false)))
    (sNil)) (sNil) [some x, some (.loc 1), pI c, pP u, pP v, pZ m, k, p, l, q, pP a, pP b, pP d, pP tf, pP tg, s] st = .nx [some x, some (.loc 1), pI c, pP u, pP v, pZ m, k, p, l, q, pP a, pP b, pP d, pP tf, pP tg, s] st := by
  simp [h1, h2]
theorem s_q11 {m : Int} {k s p l q : Option D} (h1 : φ_falls [.p (tupI f), .p (tupI g)] st = .ok (.p (.int m)) st) : q11 (eQ x c u v a b d f g m k p l q s) st = .nx (eQ x c u v a b d f g m k p l q s) st := c_q11 h1 (e_same (.int 8 m) st)
theorem s_q12 {m : Int} {k s l q : Option D} : q12 (eQ x c u v a b d f g m k none l q s) st = .nx (eQ x c u v a b d f g m k (pP (one1 f)) l q s) st := by
  unfold eQ one1
  generalize tupI f = tf at *
  generalize tupI g = tg at *
  simp [q12]
theorem tup_of {CC : Env' → M D} {env : Env'} {xs : List PyData} (h : CC env st = .ok (.p (.list xs)) st1) : mL (aCons CC (aNil)) (gL1 (lift1 1 tupP)) env st = .ok (.p (.tuple xs)) st1 := by
  simp [h]
theorem gset_q8 {o2 o3 o4 o5 o6 o7 o9 o10 o11 o12 o13 o14 o15 o8 : Option D} (w : PyData) : gSet (.nm 8) (.p w) [some x, some (.loc 1), o2, o3, o4, o5, o6, o7, o8, o9, o10, o11, o12, o13, o14, o15] = some [some x, some (.loc 1), o2, o3, o4, o5, o6, o7, pP w, o9, o10, o11, o12, o13, o14, o15] := by
  simp
theorem gset_q9 {o2 o3 o4 o5 o6 o7 o9 o10 o11 o12 o13 o14 o15 o8 : Option D} (w : PyData) : gSet (.nm 9) (.p w) [some x, some (.loc 1), o2, o3, o4, o5, o6, o7, o8, o9, o10, o11, o12, o13, o14, o15] = some [some x, some (.loc 1), o2, o3, o4, o5, o6, o7, o8, pP w, o10, o11, o12, o13, o14, o15] := by
  simp
theorem sub_range {f g : List Int} (hf : f.length = c) (hg : g.length = c) : ((List.range c).map fun (j : Nat) => PyData.int (f.getD j 0 - g.getD j 0)) = (f.zipWith (· - ·) g).map .int := by
  apply List.ext_getElem
  · simp [hf, hg]
  · intro i h1 h2
    simp at h1 h2
    have h3 : i < f.length := by omega
    have h4 : i < g.length := by omega
    simp [h3, h4, List.getD_eq_getElem?_getD]
theorem s_q13 {m : Int} {k s p q : Option D} (hf : f.length = c) (hg : g.length = c) (hc : c ≤ 3) : q13 (eQ x c u v a b d f g m k p none q s) st = .nx (eQ x c u v a b d f g m k p (pP (tupI (f.zipWith (· - ·) g))) q s) st := by
  have hcomp := comp_all (mi := iArgs (aCons (mVar 2) (aNil)) rng1) (own := [6]) (g := .nm 6) (m := m2 (m2 (mVar 13) (mVar 6) ixG) (m2 (mVar 14) (mVar 6) ixG) (lift2 1 subP)) (env := eQ x c u v a b d f g m k p none q s) (st := st) (st0 := st) (xs := List.range c) (e := fun (j : Nat) => .int j) (h := fun j => .int (f.getD j 0 - g.getD j 0)) (src_rng (n := c) (by simp [eQ]) (by omega)) (by simp; omega) fun j hj => by
    have hj' := List.mem_range.mp hj
    have i1 := fun st => ix_tupI (st := st) (a := f) (j := j) (by omega)
    have i2 := fun st => ix_tupI (st := st) (a := g) (j := j) (by omega)
    refine turn_all (env1 := eQ x c u v a b d f g m (pI j) p none q s) (by simp [eQ, wipeE]) ?_
    generalize f.getD j 0 = y at *
    generalize g.getD j 0 = z at *
    simp [eQ, i1, i2]
  rw [sub_range hf hg] at hcomp
  exact asg_ok (tup_of hcomp) (gset_q8 _)
def cDue (ga : List D → M D) : Env' → M D := mIf (tB (m2 (mL (aCons (mVar 8) (aNil)) (gL1 (lift1 1 (best1 false)))) (mC (.int 0)) (lift2 3 geP))) (mCall (aCons (mL (aCons (mL (aCons (mVar 8) (aCons (mL (aCons (mVar 5) (aCons (mC (.int 1)) (aNil))) gTupD) (aNil))) gTupD) (aNil)) gLstD) (aNil)) (sized 1 ga)) (mL (aNil) gTupD)
theorem c_q14a {ga : List D → M D} {m i : Int} {k s p q : Option D} {tl tf tg : PyData} (h1 : best1 false tl = some (.int i)) (hi : 0 ≤ i) (h2 : ga [.p (.list [.tuple [tl, .tuple [.int m, .int 1]]])] st = .ok (.p w) st) :
    cDue ga [some x, some (.loc 1), pI c, pP u, pP v, pZ m, k, p, pP tl, q, pP a, pP b, pP d, pP tf, pP tg, s] st = .ok (.p w) st := by
  simp [cDue, h1, hi, h2]
theorem c_q14b {ga : List D → M D} {m i : Int} {k s p q : Option D} {tl tf tg : PyData} (h1 : best1 false tl = some (.int i)) (hi : ¬ 0 ≤ i) :
    cDue ga [some x, some (.loc 1), pI c, pP u, pP v, pZ m, k, p, pP tl, q, pP a, pP b, pP d, pP tf, pP tg, s] st = .ok (.p (.tuple [])) st := by
  simp [cDue, h1, hi]
theorem q14_eq : q14 = sAsg (.nm 3) (cDue φ__law_gather) := rfl
/-- what is due is what acts -/
theorem s_q14 {k s p q : Option D} (hf : f.length = c) (hg : g.length = c) (f0 : ∀ i ∈ f, 0 ≤ i ∧ i ≤ 5) (g0 : ∀ i ∈ g, 0 ≤ i ∧ i ≤ 4) (hc1 : 1 ≤ c) (hc : c ≤ 3) (st : Sto) :
    ∃ w, q14 (eQ x c u v a b d f g (Po.fall c (fnE f) (fnE g)) k p (pP (tupI (f.zipWith (· - ·) g))) q s) st = .nx (eQ x c w v a b d f g (Po.fall c (fnE f) (fnE g)) k p (pP (tupI (f.zipWith (· - ·) g))) q s) st ∧ Pg c 180 1 w (Po.Act c (mono g) (mono f)) := by
  have hll : (f.zipWith (· - ·) g).length = c := by rw [List.length_zipWith]; omega
  have hcases : ∃ i l, f.zipWith (· - ·) g = i :: l := by
    cases q : f.zipWith (· - ·) g with
    | nil => rw [q] at hll; simp at hll; omega
    | cons i l => exact ⟨i, l, rfl⟩
  obtain ⟨i, l, hl⟩ := hcases
  have hmin := min_ev i l
  rw [← hl] at hmin
  rw [q14_eq]
  by_cases hi : 0 ≤ l.foldl min i
  · have hnn : ∀ j ∈ f.zipWith (· - ·) g, 0 ≤ j := fun j hj => by
      rw [hl] at hj
      have := foldl_min.mp hi
      rcases List.mem_cons.mp hj with z | z
      · rw [z]; exact this.1
      · exact this.2 j z
    have fb : ∀ k, f.getD k 0 ≤ ((5 : Nat) : Int) := fun k => by
      rw [List.getD_eq_getElem?_getD]
      cases q : f[k]? with
      | none => decide
      | some y => exact (f0 y (List.mem_of_getElem? q)).2
    have gb : ∀ k, g.getD k 0 ≤ ((4 : Nat) : Int) := fun k => by
      rw [List.getD_eq_getElem?_getD]
      cases q : g[k]? with
      | none => decide
      | some y => exact (g0 y (List.mem_of_getElem? q)).2
    have hsz := sz_fall (n := c) (fun i hi => (f0 i hi).1) (fun k => Int.le_trans (fb k) (by decide)) gb (by decide)
    have hok : Okt c (2 ^ (4 * 160)) 160 (f.zipWith (· - ·) g, .tuple [.int (Po.fall c (fnE f) (fnE g)), .int 1], (Po.fall c (fnE f) (fnE g) : Rat)) := by
      have h0 : Okt c (2 ^ (10 * 4 * c)) 0 (f.zipWith (· - ·) g, .tuple [.int (Po.fall c (fnE f) (fnE g)), .int 1], (Po.fall c (fnE f) (fnE g) : Rat)) := ⟨hll, hnn, isr_i _, hsz⟩
      have h1 := h0.up 160
      rw [Nat.zero_add] at h1
      refine h1.mono ?_
      calc 2 ^ (10 * 4 * c) * 6 ^ 160 ≤ 2 ^ 120 * 6 ^ 160 := Nat.mul_le_mul_right _ (Nat.pow_le_pow_right (by decide) (by omega))
        _ ≤ 2 ^ (4 * 160) := by decide
    obtain ⟨w, g1, g2⟩ := g_gather (st := st) (d := .p (.list ([(f.zipWith (· - ·) g, .tuple [.int (Po.fall c (fnE f) (fnE g)), .int 1], (Po.fall c (fnE f) (fnE g) : Rat))].map trm))) (T := 1) (n := c) (w := 160) (l := [(f.zipWith (· - ·) g, .tuple [.int (Po.fall c (fnE f) (fnE g)), .int 1], (Po.fall c (fnE f) (fnE g) : Rat))]) (.inr (.inl rfl)) hc1 (fun t ht => by rw [List.mem_singleton.mp ht]; exact hok) (by simp) (by decide) (by decide)
    refine ⟨w, asg_ok (c_q14a hmin hi g1) (by simp [eQ]), ?_⟩
    have e : Po.cls (mth [(f.zipWith (· - ·) g, .tuple [.int (Po.fall c (fnE f) (fnE g)), .int 1], (Po.fall c (fnE f) (fnE g) : Rat))]) = Po.Act c (mono g) (mono f) := by
      rw [act_mono, ← low_fn hf hg fun i hi => (g0 i hi).1]
      rfl
    rw [e] at g2
    exact g2
  · refine ⟨.tuple [], asg_ok (c_q14b hmin hi) (by simp [eQ]), ?_⟩
    rw [act_mono_zero hf hg (fun i hi => (f0 i hi).1) ?_]
    · exact nil_poly.mono (Nat.le_refl _) (by omega)
    · intro hd
      have := sub_nn hd (by omega)
      rw [hl] at this
      exact hi (foldl_min.mpr ⟨this i List.mem_cons_self, fun j hj => this j (List.mem_cons_of_mem _ hj)⟩)
theorem c_q15 {ac sm : List D → Fw.M D} {m : Int} {k s l q : Option D} {tf tg p : PyData} (h1 : ac [.p (.tuple [.tuple [tg, .tuple [.int 1, .int 1]]]), .p p, .p (.int c)] st = .ok (.p y) st) (h2 : sm [.p y, .p u] st = .ok (.p (.bool true)) st) :
    sIf (tNt (tV (mCall (aCons (mCall (aCons (mL (aCons (mL (aCons (mVar 14) (aCons (mL (aCons (mC (.int 1)) (aCons (mC (.int 1)) (aNil))) gTupD) (aNil))) gTupD) (aNil)) gTupD) (aCons (mVar 7) (aCons (mVar 2) (aNil)))) (sized 3 ac)) (aCons (mVar 3) (aNil))) (sized 2 sm)))) (sSeq (sRet (mC (.bool false)))
    (sNil)) (sNil) [some x, some (.loc 1), pI c, pP u, pP v, pZ m, k, pP p, l, q, pP a, pP b, pP d, pP tf, pP tg, s] st = .nx [some x, some (.loc 1), pI c, pP u, pP v, pZ m, k, pP p, l, q, pP a, pP b, pP d, pP tf, pP tg, s] st := by
  simp [h1, h2]
theorem s_q15 {m : Int} {k s l q : Option D} (h1 : φ_acted [.p (one1 g), .p (one1 f), .p (.int c)] st = .ok (.p y) st) (h2 : φ__law_same 9 [.p y, .p u] st = .ok (.p (.bool true)) st) : q15 (eQ x c u v a b d f g m k (pP (one1 f)) l q s) st = .nx (eQ x c u v a b d f g m k (pP (one1 f)) l q s) st := c_q15 h1 h2
def more (c : Nat) (f : List Int) : List Int := (List.range c).map fun (j : Nat) => f.getD j 0 + if j = 0 then 1 else 0
theorem s_q16 {m : Int} {k s p l : Option D} (hf : f.length = c) (hc : c ≤ 3) : q16 (eQ x c u v a b d f g m k p l none s) st = .nx (eQ x c u v a b d f g m k p l (pP (tupI (more c f))) s) st := by
  have hcomp := comp_all (mi := iArgs (aCons (mVar 2) (aNil)) rng1) (own := [6]) (g := .nm 6) (m := m2 (m2 (mVar 13) (mVar 6) ixG) (mIf (tB (m2 (mVar 6) (mC (.int 0)) (lift2 3 eqP))) (mC (.int 1)) (mC (.int 0))) (lift2 1 addP)) (env := eQ x c u v a b d f g m k p l none s) (st := st) (st0 := st) (xs := List.range c) (e := fun (j : Nat) => .int j) (h := fun j => .int (f.getD j 0 + if j = 0 then 1 else 0)) (src_rng (n := c) (by simp [eQ]) (by omega)) (by simp; omega) fun j hj => by
    have hj' := List.mem_range.mp hj
    have i1 := fun st => ix_tupI (st := st) (a := f) (j := j) (by omega)
    refine turn_all (env1 := eQ x c u v a b d f g m (pI j) p l none s) (by simp [eQ, wipeE]) ?_
    generalize f.getD j 0 = y at *
    by_cases q : j = 0
    · subst q
      have i1' : ∀ st, ixG (.p (tupI f)) (.p (.int 0)) st = some (.p (.int y), st) := i1
      simp [eQ, i1']
    · have q' : (j : Int) ≠ 0 := by omega
      simp [eQ, i1, q, q']
  have e : ((List.range c).map fun (j : Nat) => PyData.int (f.getD j 0 + if j = 0 then 1 else 0)) = (more c f).map .int := by unfold more; rw [List.map_map]; rfl
  rw [e] at hcomp
  exact asg_ok (tup_of hcomp) (gset_q9 _)
theorem c_q17 {ac sm : List D → Fw.M D} {m : Int} {k s l : Option D} {tf tg tq p : PyData} (h1 : ac [.p (.tuple [.tuple [tq, .tuple [.int 1, .int 1]]]), .p p, .p (.int c)] st = .ok (.p y) st) (h2 : sm [.p y, .p (.tuple [])] st = .ok (.p (.bool true)) st) :
    sRet (mCall (aCons (mCall (aCons (mL (aCons (mL (aCons (mVar 9) (aCons (mL (aCons (mC (.int 1)) (aCons (mC (.int 1)) (aNil))) gTupD) (aNil))) gTupD) (aNil)) gTupD) (aCons (mVar 7) (aCons (mVar 2) (aNil)))) (sized 3 ac)) (aCons (mL (aNil) gTupD) (aNil))) (sized 2 sm)) [some x, some (.loc 1), pI c, pP u, pP v, pZ m, k, pP p, l, pP tq, pP a, pP b, pP d, pP tf, pP tg, s] st = .ret (.p (.bool true)) st := by
  simp [h1, h2]
theorem s_q17 {m : Int} {k s l : Option D} {q : List Int} (h1 : φ_acted [.p (one1 q), .p (one1 f), .p (.int c)] st = .ok (.p y) st) (h2 : φ__law_same 9 [.p y, .p (.tuple [])] st = .ok (.p (.bool true)) st) : q17 (eQ x c u v a b d f g m k (pP (one1 f)) l (pP (tupI q)) s) st = .ret (.p (.bool true)) st := c_q17 h1 h2
end
end Q
set_option Elab.async false
set_option linter.all false
set_option maxRecDepth 100000
set_option maxHeartbeats 4000000
set_option exponentiation.threshold 20000
namespace Q
open PySem PySem.Spec Fw
open L2 (Key)
theorem c_pr {mu ac : List D → M D} {a b d u r : PyData} {n : Nat} {st : Sto} (h1 : mu [.p a, .p b] st = .ok (.p u) st) (h2 : ac [.p u, .p d, .p (.int n)] st = .ok (.p r) st) : fnDen N_product_rule (sSeq (sRet (mCall (aCons (mCall (aCons (mVar 0) (aCons (mVar 1) (aNil))) (sized 2 mu)) (aCons (mVar 2) (aCons (mVar 3) (aNil)))) (sized 3 ac))) (sNil)) [.p a, .p b, .p d, .p (.int n)] st = .ok (.p r) st := by
  simp [N_product_rule, h1, h2]
theorem more_len (c : Nat) (f : List Int) : (more c f).length = c := by unfold more; simp
theorem more_mem {c : Nat} {f : List Int} (hf : f.length = c) (f0 : ∀ i ∈ f, 0 ≤ i ∧ i ≤ 5) : ∀ i ∈ more c f, 0 ≤ i ∧ i ≤ ((6 : Nat) : Int) := fun i hi => by
  obtain ⟨j, hj, rfl⟩ := List.mem_map.mp hi
  have hj' := List.mem_range.mp hj
  have : f.getD j 0 ∈ f := by
    rw [List.getD_eq_getElem?_getD, List.getElem?_eq_getElem (show j < f.length by omega)]
    exact List.getElem_mem _
  have := f0 _ this
  split <;> omega
theorem more_ndvd {c : Nat} {f : List Int} (hf : f.length = c) (hc : 1 ≤ c) : ¬ dvd (more c f) f = true := fun h => by
  have := (dvd_iff (by rw [more_len, hf])).mp h 0 (by rw [more_len]; omega)
  have e : (more c f).getD 0 0 = f.getD 0 0 + 1 := by
    unfold more
    rw [List.getD_eq_getElem?_getD, List.getElem?_map, List.getElem?_eq_getElem (by simp; omega)]
    simp
  omega
theorem law_true (ns : List Int) (hl : ns.length ≤ 63) : φ_law [.p (.list (ns.map .int))] [] = .ok (.p (.bool true)) [] := by
  obtain ⟨st0, t1, t2⟩ := e_tape ns hl
  obtain ⟨c, st1, a1, ⟨hc, hc3⟩, a3⟩ := s_q1 (x := .p (.list (ns.map .int))) t2
  obtain ⟨a, p1, st2, b1, ⟨hA', dA⟩, b3⟩ := e_lpoly a3 (c := c) (most := 3) (size := 3) hc (by omega) (by omega) (by omega)
  obtain ⟨b, p2, st3, c1, ⟨hB', dB⟩, c3⟩ := e_lpoly b3 (c := c) (most := 2) (size := 2) hc (by omega) (by omega) (by omega)
  obtain ⟨d, p3, st4, d1, ⟨hD', dD⟩, d3⟩ := e_lpoly c3 (c := c) (most := 4) (size := 4) hc (by omega) (by omega) (by omega)
  have hA : Pg c 10 3 a p1 := Pg.of (w := 1) (e := 9) hA' (by decide)
  have hB : Pg c 10 2 b p2 := Pg.of (w := 1) (e := 9) hB' (by decide)
  have hD : Pg c 10 4 d p3 := Pg.of (w := 1) (e := 9) hD' (by decide)
  -- due
  obtain ⟨u, e1, hU⟩ := k_lacted hA hD dD dA (by decide) hc (by omega) (by decide) (by omega) (by decide) (by decide) st4
  obtain ⟨v4, f1, hv4⟩ := k_acted hA hD dD dA (by decide) hc (by omega) (by decide) (by omega) (by omega) (by decide) (by decide) (by decide) st4
  obtain ⟨y4, f2, hy4⟩ := k_by_slopes hA hD dD dA (by decide) hc (by omega) (by decide) (by omega) (by decide) (by decide) (by decide) st4
  -- sums
  obtain ⟨v5, g1, hv5⟩ := g_ltotal hA (hB.mono (T' := 2) (Nat.le_refl _) (Nat.le_refl _)) hc (by decide) (by decide) st4
  have dS : Dg 3 (p1 + p2) := by have := dA.add dB; exact this
  obtain ⟨y5, g2, hy5⟩ := k_acted hv5 hD dD dS (by decide) hc (by omega) (by decide) (by omega) (by omega) (by decide) (by decide) (by decide) st4
  obtain ⟨z5, g3, hz5⟩ := k_lacted hB hD dD dB (by decide) hc (by omega) (by decide) (by omega) (by decide) (by decide) st4
  have hU' : Pg c 450 12 u (Po.Act c p1 p3) := hU.mono (by omega) (by decide)
  obtain ⟨r5, g4, hr5⟩ := g_ltotal hU' (hz5.mono (w' := 450) (by omega) (Nat.le_refl _)) hc (by decide) (by decide) st4
  rw [← Po.Act_add_left] at hr5
  -- twice
  have hz5' : Pg c 260 8 z5 (Po.Act c p2 p3) := hz5.mono (by omega) (by decide)
  obtain ⟨v6, i1, hv6⟩ := k_lacted hA hz5' (dD.AAct) dA (by decide) hc (by omega) (by decide) (by omega) (by decide) (by decide) st4
  -- product rule
  obtain ⟨m7, j1, hm7⟩ := g_mul hA hB hc (by omega) (by decide) (by decide) (by decide) st4
  have dM : Dg 5 (p1 * p2) := Dg.mul hA hB dA dB
  obtain ⟨y7, j2, hy7⟩ := k_acted hm7 hD dD dM (by decide) hc (by omega) (by decide) (by omega) (by omega) (by decide) (by decide) (by decide) st4
  rw [Po.Act_mul_left hA.nn hB.nn] at hy7
  obtain ⟨z7, j3, hz7⟩ := k_acted hB hD dD dB (by decide) hc (by omega) (by decide) (by omega) (by omega) (by decide) (by decide) (by decide) st4
  have hz7' : Pg c 142 8 z7 (Po.Act c p2 p3) := hz7.mono (by omega) (by decide)
  obtain ⟨r7, j4, hr7⟩ := k_acted hA hz7' (dD.AAct) dA (by decide) hc (by omega) (by decide) (by omega) (by omega) (by decide) (by decide) (by decide) st4
  -- terms
  obtain ⟨f, st5, l1, ⟨hf, f0⟩, l3⟩ := e_lterm d3 (c := c) (most := 5) hc (by omega) (by omega)
  obtain ⟨g, st6, m1, ⟨hg, g0⟩, m3⟩ := e_lterm l3 (c := c) (most := 4) hc (by omega) (by omega)
  have f0' : ∀ i ∈ f, 0 ≤ i ∧ i ≤ 5 := f0
  have g0' : ∀ i ∈ g, 0 ≤ i ∧ i ≤ 4 := g0
  obtain ⟨kk, ss, n1⟩ := s_q10 (x := .p (.list (ns.map .int))) (c := c) (u := u) (v := v6) (a := a) (b := b) (d := d) hf hg f0' g0' hc3 st6
  have hfn : ∀ k, f.getD k 0 ≤ 1000 := fun k => by
    rw [List.getD_eq_getElem?_getD]
    cases q : f[k]? with
    | none => decide
    | some y => have := (f0' y (List.mem_of_getElem? q)).2; show y ≤ 1000; omega
  have hgn : ∀ k, g.getD k 0 ≤ ((4 : Nat) : Int) := fun k => by
    rw [List.getD_eq_getElem?_getD]
    cases q : g[k]? with
    | none => decide
    | some y => exact (g0' y (List.mem_of_getElem? q)).2
  have o1 := e_falls (b := 4) hf hg (fun i hi => (f0' i hi).1) (fun i hi => (g0' i hi).1) hfn hgn (by decide) (by omega) (by omega) st6
  obtain ⟨w, q1, hw⟩ := s_q14 (x := .p (.list (ns.map .int))) (u := u) (v := v6) (a := a) (b := b) (d := d) (k := kk) (s := ss) (p := pP (one1 f)) (q := none) hf hg f0' g0' hc hc3 st6
  have hpf : Pg c 1 1 (one1 f) (mono f) := pg_mono hf fun i hi => (f0' i hi).1
  have hpg : Pg c 1 1 (one1 g) (mono g) := pg_mono hg fun i hi => (g0' i hi).1
  have dpf : Dg 5 (mono f) := dg_mono fun i hi => (f0' i hi).2
  have dpg : Dg 4 (mono g) := dg_mono fun i hi => (g0' i hi).2
  obtain ⟨y15, r1, hy15⟩ := k_acted hpg hpf dpf dpg (by decide) hc (by omega) (by decide) (by omega) (by omega) (by decide) (by decide) (by decide) st6
  have hmm := more_mem hf f0'
  have hpm : Pg c 1 1 (one1 (more c f)) (mono (more c f)) := pg_mono (more_len c f) fun i hi => (hmm i hi).1
  have dpm : Dg 6 (mono (more c f)) := dg_mono fun i hi => (hmm i hi).2
  obtain ⟨y17, v1, hy17⟩ := k_acted hpm hpf dpf dpm (by decide) hc (by omega) (by decide) (by omega) (by omega) (by decide) (by decide) (by decide) st6
  rw [act_mono_zero hf (more_len c f) (fun i hi => (f0' i hi).1) (more_ndvd hf hc)] at hy17
  have z0 := s_q0 (x := .p (.list (ns.map .int))) t1
  have z2 := s_q2 (x := .p (.list (ns.map .int))) b1 c1 d1
  have z3 := s_q3 (x := .p (.list (ns.map .int))) (c := c) (b := b) e1
  have z4 := s_q4 (x := .p (.list (ns.map .int))) (b := b) f1 (k_same hv4 hU (by omega) (by decide) st4) f2 (k_same hy4 hU (by omega) (by decide) st4)
  have z5 := s_q5 (x := .p (.list (ns.map .int))) g1 g2 g3 g4 (k_same hy5 hr5 (by omega) (by decide) st4)
  have z6 := s_q6 (x := .p (.list (ns.map .int))) (c := c) (u := u) g3 i1
  have pr : φ_product_rule [.p a, .p b, .p d, .p (.int c)] st4 = .ok (.p y7) st4 := c_pr j1 j2
  have z7 := s_q7 (x := .p (.list (ns.map .int))) (u := u) pr (k_same hy7 hv6 (by omega) (by decide) st4) j3 j4 (k_same hr7 hv6 (by omega) (by decide) st4)
  have z8 := s_q8 (x := .p (.list (ns.map .int))) (u := u) (v := v6) (a := a) (b := b) (d := d) l1 m1
  have z9 := s_q9 (x := .p (.list (ns.map .int))) (st := st6) (c := c) (u := u) (v := v6) (a := a) (b := b) (d := d) (f := tupI f) (g := tupI g)
  have z11 := s_q11 (x := .p (.list (ns.map .int))) (c := c) (u := u) (v := v6) (a := a) (b := b) (d := d) (k := kk) (s := ss) (p := none) (l := none) (q := none) o1
  have z12 := s_q12 (x := .p (.list (ns.map .int))) (st := st6) (c := c) (u := u) (v := v6) (a := a) (b := b) (d := d) (f := f) (g := g) (m := Po.fall c (fnE f) (fnE g)) (k := kk) (s := ss) (l := none) (q := none)
  have z13 := s_q13 (x := .p (.list (ns.map .int))) (st := st6) (u := u) (v := v6) (a := a) (b := b) (d := d) (m := Po.fall c (fnE f) (fnE g)) (k := kk) (s := ss) (p := pP (one1 f)) (q := none) hf hg hc3
  have z15 := s_q15 (x := .p (.list (ns.map .int))) (u := w) (v := v6) (a := a) (b := b) (d := d) (m := Po.fall c (fnE f) (fnE g)) (k := kk) (s := ss) (l := pP (tupI (f.zipWith (· - ·) g))) (q := none) r1 (k_same hy15 hw (by omega) (by decide) st6)
  have z16 := s_q16 (x := .p (.list (ns.map .int))) (st := st6) (u := w) (v := v6) (a := a) (b := b) (d := d) (g := g) (m := Po.fall c (fnE f) (fnE g)) (k := kk) (s := ss) (p := pP (one1 f)) (l := pP (tupI (f.zipWith (· - ·) g))) hf hc3
  have z17 := s_q17 (x := .p (.list (ns.map .int))) (u := w) (v := v6) (a := a) (b := b) (d := d) (g := g) (m := Po.fall c (fnE f) (fnE g)) (k := kk) (s := ss) (l := pP (tupI (f.zipWith (· - ·) g))) v1 (k_same hy17 (nil_poly (w := 0)) (by omega) (by decide) st6)
  have he : env0 N_law [.p (.list (ns.map .int))] = [some (.p (.list (ns.map .int))), none, none, none, none, none, none, none, none, none, none, none, none, none, none, none] := rfl
  unfold eN at n1
  unfold eQ at z11 z12 z13 q1 z15 z16 z17
  unfold φ_law
  rw [ev_fnDen, he]
  unfold m_law
  simp only [ev_sSeq, z0, a1, z2, z3, z4, z5, z6, z7, z8, z9, n1, z11, z12, z13, q1, z15, z16, z17]
  rfl
end Q
set_option Elab.async false
set_option linter.all false
set_option maxRecDepth 100000
set_option maxHeartbeats 0
namespace Q
open PySem PySem.Spec PyProof.Rows L2 Fw
def top (i : Nat) : Stmt := PySem.Challenge.pw_sumsandrests_k76_whole_polynomials_that.main.body.getD i (.Pass ⟨0, 0, 0, 0⟩)
def mkD (g x : Str) (i : Nat) : He.DefD := ⟨(g, none), x, x, defArgs (top i), defBody (top i), defScope (top i), [], []⟩
def fn : List He.DefD := [mkD "is_integer" "is_integer" 6, mkD "is_ratio" "is_ratio" 7, mkD "divisor" "divisor" 8, mkD "make" "make" 9, mkD "of" "of" 10, mkD "add_ratios" "add" 11, mkD "multiply_ratios" "multiply" 13, mkD "is_monomial" "is_monomial" 16, mkD "times" "times" 17, mkD "divides" "divides" 18, mkD "over" "over" 19, mkD "is_poly" "is_poly" 21, mkD "check_poly" "check_poly" 22, mkD "gathered" "gathered" 23, mkD "add_polys" "add" 24, mkD "scaled" "scaled" 26, mkD "shifted" "shifted" 27, mkD "multiply_polys" "multiply" 28, mkD "slope" "slope" 30, mkD "acted" "acted" 32, mkD "falls" "falls" 33, mkD "by_slopes" "by_slopes" 34, mkD "product_rule" "product_rule" 35, mkD "_law_tape" "_law_tape" 37, mkD "_law_draw" "_law_draw" 38, mkD "_law_same" "_law_same" 39, mkD "_law_make" "_law_make" 40, mkD "_law_plus" "_law_plus" 41, mkD "_law_by" "_law_by" 42, mkD "_law_gather" "_law_gather" 43, mkD "_law_scaled" "_law_scaled" 44, mkD "_law_total" "_law_total" 45, mkD "_law_slope" "_law_slope" 46, mkD "_law_fraction" "_law_fraction" 47, mkD "_law_term" "_law_term" 48, mkD "_law_poly" "_law_poly" 49, mkD "_law_acted" "_law_acted" 50, mkD "law" "law" 51]
def frees : List Str := ["ValueError", "abs", "all", "bool", "enumerate", "int", "isinstance", "len", "min", "range", "sorted", "str", "tuple", "zip"]
def fa : List He.Fa := [.glo "is_integer", .glo "is_ratio", .glo "divisor", .glo "make", .glo "of", .glo "add_ratios", .glo "multiply_ratios", .glo "is_monomial", .glo "times", .glo "divides", .glo "over", .glo "is_poly", .glo "check_poly", .glo "gathered", .glo "add_polys", .glo "scaled", .glo "shifted", .glo "multiply_polys", .glo "slope", .glo "acted", .glo "falls", .glo "by_slopes", .glo "product_rule", .glo "_law_tape", .glo "_law_draw", .glo "_law_same", .glo "_law_make", .glo "_law_plus", .glo "_law_by", .glo "_law_gather", .glo "_law_scaled", .glo "_law_total", .glo "_law_slope", .glo "_law_fraction", .glo "_law_term", .glo "_law_poly", .glo "_law_acted", .glo "law", .glo "BadNumber", .glo "BadPoly", .exc "BadNumber", .exc "BadPoly", .exm "BadNumber" "BadNumber" true, .exm "BadNumber" "BadPoly" false, .exm "BadPoly" "BadNumber" false, .exm "BadPoly" "BadPoly" true] ++ frees.map .free
def kons : List (Str × Kon) := [("ZERO", .ints [0, 1])]
abbrev loose0 : List Str := ["is_integer", "is_ratio", "divisor", "make", "of", "add", "multiply", "is_monomial", "times", "divides", "over", "is_poly", "check_poly", "gathered", "scaled", "shifted", "slope", "acted", "falls", "by_slopes"]
abbrev loose1 : List Str := ["product_rule", "_law_tape", "_law_draw", "_law_same", "_law_make", "_law_plus", "_law_by", "_law_gather", "_law_scaled", "_law_total", "_law_slope", "_law_fraction", "_law_term", "_law_poly", "_law_acted", "add_ratios", "multiply_ratios", "add_polys", "multiply_polys", "SumError"]
abbrev loose2 : List Str := ["BadNumber", "BadPoly", "ZERO"]
abbrev loose : List Str := loose0 ++ loose1 ++ loose2

abbrev Rr : PySem.W.OpenRow := PySem.W.OpenLaw.row PySem.Challenge.rw_sumsandrests_k76_whole_polynomials_that
abbrev hk : PySem.W.Hook := He.hookX 4 fa fn [] [] (konsB kons)
def ob (s : PySem.W.SharedT) : He.AlX := He.obsX 4 fa fn [] [] (konsB kons) (HandSHeadRun.getT s)
theorem ob_eq (s : PySem.W.SharedT) : ob s = hk.obs s.abs := He.obsX_eq (HandSHeadRun.getT_eq s)
theorem run (w : World) : HandSHeadRun.RunEq Rr (PySem.W.view Rr.prog [51]) hk ob 6000 loose w := by
  intro os
  kernel_rfl
end Q
set_option Elab.async false
set_option linter.all false
set_option maxRecDepth 100000
set_option maxHeartbeats 0
namespace Q
open PySem PySem.Spec PyProof.Rows L2 Fw
def glos : List (Str × PyData) := kons.map fun q => (q.1, q.2.d)
def exsL : List (Str × Nat) := [("BadNumber", 0), ("BadPoly", 1)]
def ck (N : List Str) (sc : Scope) (fs : List (Str × Nat × (List D → M D))) (mu : List Nat) (dct : List Str) : Ck := ⟨N, sc, none, frees, glos, fs, exsL, isa0, mu, dct, fuel⟩
def C_is_integer : Ck := ck N_is_integer (defScope (top 6)) [] [] []
theorem t_is_integer : trS 40 60 (C_is_integer) (defBody (top 6)) = some (m_is_integer) := by kernel_rfl
theorem s_is_integer : FnScope N_is_integer ["value"] (defScope (top 6)) := ⟨rfl, rfl, rfl, by decide +kernel, rfl, by decide +kernel, by decide +kernel⟩
def C_divisor : Ck := ck N_divisor (defScope (top 8)) [] [] []
theorem t_divisor : trS 40 60 (C_divisor) (defBody (top 8)) = some (m_divisor) := by kernel_rfl
theorem s_divisor : FnScope N_divisor ["one", "other"] (defScope (top 8)) := ⟨rfl, rfl, rfl, by decide +kernel, rfl, by decide +kernel, by decide +kernel⟩
def C_is_ratio : Ck := ck N_is_ratio (defScope (top 7)) [("divisor", 2, φ_divisor), ("is_integer", 1, φ_is_integer)] [] []
theorem t_is_ratio : trS 40 60 (C_is_ratio) (defBody (top 7)) = some (m_is_ratio) := by kernel_rfl
theorem s_is_ratio : FnScope N_is_ratio ["value"] (defScope (top 7)) := ⟨rfl, rfl, rfl, by decide +kernel, rfl, by decide +kernel, by decide +kernel⟩
def C_make : Ck := ck N_make (defScope (top 9)) [("divisor", 2, φ_divisor)] [] []
theorem t_make : trS 40 60 (C_make) (defBody (top 9)) = some (m_make) := by kernel_rfl
theorem s_make : FnScope N_make ["above", "below"] (defScope (top 9)) := ⟨rfl, rfl, rfl, by decide +kernel, rfl, by decide +kernel, by decide +kernel⟩
def C_of : Ck := ck N_of (defScope (top 10)) [] [] []
theorem t_of : trS 40 60 (C_of) (defBody (top 10)) = some (m_of) := by kernel_rfl
theorem s_of : FnScope N_of ["integer"] (defScope (top 10)) := ⟨rfl, rfl, rfl, by decide +kernel, rfl, by decide +kernel, by decide +kernel⟩
def C_add_ratios : Ck := ck N_add_ratios (defScope (top 11)) [("make", 2, φ_make)] [] []
theorem t_add_ratios : trS 40 60 (C_add_ratios) (defBody (top 11)) = some (m_add_ratios) := by kernel_rfl
theorem s_add_ratios : FnScope N_add_ratios ["one", "other"] (defScope (top 11)) := ⟨rfl, rfl, rfl, by decide +kernel, rfl, by decide +kernel, by decide +kernel⟩
def C_multiply_ratios : Ck := ck N_multiply_ratios (defScope (top 13)) [("make", 2, φ_make)] [] []
theorem t_multiply_ratios : trS 40 60 (C_multiply_ratios) (defBody (top 13)) = some (m_multiply_ratios) := by kernel_rfl
theorem s_multiply_ratios : FnScope N_multiply_ratios ["one", "other"] (defScope (top 13)) := ⟨rfl, rfl, rfl, by decide +kernel, rfl, by decide +kernel, by decide +kernel⟩
def C_is_monomial : Ck := ck N_is_monomial (defScope (top 16)) [("is_integer", 1, φ_is_integer)] [] []
theorem t_is_monomial : trS 40 60 (C_is_monomial) (defBody (top 16)) = some (m_is_monomial) := by kernel_rfl
theorem s_is_monomial : FnScope N_is_monomial ["value", "count"] (defScope (top 16)) := ⟨rfl, rfl, rfl, by decide +kernel, rfl, by decide +kernel, by decide +kernel⟩
def C_times : Ck := ck N_times (defScope (top 17)) [] [] []
theorem t_times : trS 40 60 (C_times) (defBody (top 17)) = some (m_times) := by kernel_rfl
theorem s_times : FnScope N_times ["one", "other"] (defScope (top 17)) := ⟨rfl, rfl, rfl, by decide +kernel, rfl, by decide +kernel, by decide +kernel⟩
def C_divides : Ck := ck N_divides (defScope (top 18)) [] [] []
theorem t_divides : trS 40 60 (C_divides) (defBody (top 18)) = some (m_divides) := by kernel_rfl
theorem s_divides : FnScope N_divides ["one", "other"] (defScope (top 18)) := ⟨rfl, rfl, rfl, by decide +kernel, rfl, by decide +kernel, by decide +kernel⟩
def C_over : Ck := ck N_over (defScope (top 19)) [("divides", 2, φ_divides)] [] []
theorem t_over : trS 40 60 (C_over) (defBody (top 19)) = some (m_over) := by kernel_rfl
theorem s_over : FnScope N_over ["one", "other"] (defScope (top 19)) := ⟨rfl, rfl, rfl, by decide +kernel, rfl, by decide +kernel, by decide +kernel⟩
def C_is_poly : Ck := ck N_is_poly (defScope (top 21)) [("is_monomial", 2, φ_is_monomial), ("is_ratio", 1, φ_is_ratio)] [] []
theorem t_is_poly : trS 40 60 (C_is_poly) (defBody (top 21)) = some (m_is_poly) := by kernel_rfl
theorem s_is_poly : FnScope N_is_poly ["value", "count"] (defScope (top 21)) := ⟨rfl, rfl, rfl, by decide +kernel, rfl, by decide +kernel, by decide +kernel⟩
def C_check_poly : Ck := ck N_check_poly (defScope (top 22)) [("is_poly", 2, φ_is_poly)] [] []
theorem t_check_poly : trS 40 60 (C_check_poly) (defBody (top 22)) = some (m_check_poly) := by kernel_rfl
theorem s_check_poly : FnScope N_check_poly ["value", "count"] (defScope (top 22)) := ⟨rfl, rfl, rfl, by decide +kernel, rfl, by decide +kernel, by decide +kernel⟩
def C_gathered : Ck := ck N_gathered (defScope (top 23)) [("add_ratios", 2, φ_add_ratios)] [] ["sums"]
theorem t_gathered : trS 40 60 (C_gathered) (defBody (top 23)) = some (m_gathered) := by kernel_rfl
theorem s_gathered : FnScope N_gathered ["pairs"] (defScope (top 23)) := ⟨rfl, rfl, rfl, by decide +kernel, rfl, by decide +kernel, by decide +kernel⟩
def C_add_polys : Ck := ck N_add_polys (defScope (top 24)) [("gathered", 1, φ_gathered)] [] []
theorem t_add_polys : trS 40 60 (C_add_polys) (defBody (top 24)) = some (m_add_polys) := by kernel_rfl
theorem s_add_polys : FnScope N_add_polys ["one", "other"] (defScope (top 24)) := ⟨rfl, rfl, rfl, by decide +kernel, rfl, by decide +kernel, by decide +kernel⟩
def C_scaled : Ck := ck N_scaled (defScope (top 26)) [("multiply_ratios", 2, φ_multiply_ratios)] [] []
theorem t_scaled : trS 40 60 (C_scaled) (defBody (top 26)) = some (m_scaled) := by kernel_rfl
theorem s_scaled : FnScope N_scaled ["number", "one"] (defScope (top 26)) := ⟨rfl, rfl, rfl, by decide +kernel, rfl, by decide +kernel, by decide +kernel⟩
def C_shifted : Ck := ck N_shifted (defScope (top 27)) [("times", 2, φ_times), ("multiply_ratios", 2, φ_multiply_ratios)] [] []
theorem t_shifted : trS 40 60 (C_shifted) (defBody (top 27)) = some (m_shifted) := by kernel_rfl
theorem s_shifted : FnScope N_shifted ["step", "one"] (defScope (top 27)) := ⟨rfl, rfl, rfl, by decide +kernel, rfl, by decide +kernel, by decide +kernel⟩
def C_multiply_polys : Ck := ck N_multiply_polys (defScope (top 28)) [("gathered", 1, φ_gathered), ("shifted", 2, φ_shifted)] [77012] []
theorem t_multiply_polys : trS 40 60 (C_multiply_polys) (defBody (top 28)) = some (m_multiply_polys) := by kernel_rfl
theorem s_multiply_polys : FnScope N_multiply_polys ["one", "other"] (defScope (top 28)) := ⟨rfl, rfl, rfl, by decide +kernel, rfl, by decide +kernel, by decide +kernel⟩
def C_slope : Ck := ck N_slope (defScope (top 30)) [("gathered", 1, φ_gathered), ("multiply_ratios", 2, φ_multiply_ratios), ("of", 1, φ_of)] [83012] []
theorem t_slope : trS 40 60 (C_slope) (defBody (top 30)) = some (m_slope) := by kernel_rfl
theorem s_slope : FnScope N_slope ["one", "index"] (defScope (top 30)) := ⟨rfl, rfl, rfl, by decide +kernel, rfl, by decide +kernel, by decide +kernel⟩
def C_falls : Ck := ck N_falls (defScope (top 33)) [] [] []
theorem t_falls : trS 40 60 (C_falls) (defBody (top 33)) = some (m_falls) := by kernel_rfl
theorem s_falls : FnScope N_falls ["one", "other"] (defScope (top 33)) := ⟨rfl, rfl, rfl, by decide +kernel, rfl, by decide +kernel, by decide +kernel⟩
def C_acted : Ck := ck N_acted (defScope (top 32)) [("check_poly", 2, φ_check_poly), ("add_polys", 2, φ_add_polys), ("divides", 2, φ_divides), ("gathered", 1, φ_gathered), ("multiply_ratios", 2, φ_multiply_ratios), ("of", 1, φ_of), ("falls", 2, φ_falls), ("over", 2, φ_over)] [95016] []
theorem t_acted : trS 40 60 (C_acted) (defBody (top 32)) = some (m_acted) := by kernel_rfl
theorem s_acted : FnScope N_acted ["one", "other", "count"] (defScope (top 32)) := ⟨rfl, rfl, rfl, by decide +kernel, rfl, by decide +kernel, by decide +kernel⟩
def C_by_slopes : Ck := ck N_by_slopes (defScope (top 34)) [("check_poly", 2, φ_check_poly), ("add_polys", 2, φ_add_polys), ("scaled", 2, φ_scaled), ("slope", 2, φ_slope)] [] []
theorem t_by_slopes : trS 40 60 (C_by_slopes) (defBody (top 34)) = some (m_by_slopes) := by kernel_rfl
theorem s_by_slopes : FnScope N_by_slopes ["one", "other", "count"] (defScope (top 34)) := ⟨rfl, rfl, rfl, by decide +kernel, rfl, by decide +kernel, by decide +kernel⟩
def C_product_rule : Ck := ck N_product_rule (defScope (top 35)) [("acted", 3, φ_acted), ("multiply_polys", 2, φ_multiply_polys)] [] []
theorem t_product_rule : trS 40 60 (C_product_rule) (defBody (top 35)) = some (m_product_rule) := by kernel_rfl
theorem s_product_rule : FnScope N_product_rule ["one", "other", "poly", "count"] (defScope (top 35)) := ⟨rfl, rfl, rfl, by decide +kernel, rfl, by decide +kernel, by decide +kernel⟩
def C__law_tape : Ck := ck N__law_tape (defScope (top 37)) [] [125012, 125011] []
theorem t__law_tape : trS 40 60 (C__law_tape) (defBody (top 37)) = some (m__law_tape) := by kernel_rfl
theorem s__law_tape : FnScope N__law_tape ["script"] (defScope (top 37)) := ⟨rfl, rfl, rfl, by decide +kernel, rfl, by decide +kernel, by decide +kernel⟩
def C__law_draw : Ck := ck N__law_draw (defScope (top 38)) [] [] []
theorem t__law_draw : trS 40 60 (C__law_draw) (defBody (top 38)) = some (m__law_draw) := by kernel_rfl
theorem s__law_draw : FnScope N__law_draw ["tape", "many"] (defScope (top 38)) := ⟨rfl, rfl, rfl, by decide +kernel, rfl, by decide +kernel, by decide +kernel⟩
def C__law_same (self : List D → M D) : Ck := ck N__law_same (defScope (top 39)) [("_law_same", 2, self)] [] []
theorem t__law_same (self : List D → M D) : trS 40 60 (C__law_same self) (defBody (top 39)) = some (m__law_same self) := by kernel_rfl
theorem s__law_same : FnScope N__law_same ["actual", "due"] (defScope (top 39)) := ⟨rfl, rfl, rfl, by decide +kernel, rfl, by decide +kernel, by decide +kernel⟩
def C__law_make : Ck := ck N__law_make (defScope (top 40)) [] [] []
theorem t__law_make : trS 40 60 (C__law_make) (defBody (top 40)) = some (m__law_make) := by kernel_rfl
theorem s__law_make : FnScope N__law_make ["above", "under"] (defScope (top 40)) := ⟨rfl, rfl, rfl, by decide +kernel, rfl, by decide +kernel, by decide +kernel⟩
def C__law_plus : Ck := ck N__law_plus (defScope (top 41)) [("_law_make", 2, φ__law_make)] [] []
theorem t__law_plus : trS 40 60 (C__law_plus) (defBody (top 41)) = some (m__law_plus) := by kernel_rfl
theorem s__law_plus : FnScope N__law_plus ["one", "other"] (defScope (top 41)) := ⟨rfl, rfl, rfl, by decide +kernel, rfl, by decide +kernel, by decide +kernel⟩
def C__law_by : Ck := ck N__law_by (defScope (top 42)) [("_law_make", 2, φ__law_make)] [] []
theorem t__law_by : trS 40 60 (C__law_by) (defBody (top 42)) = some (m__law_by) := by kernel_rfl
theorem s__law_by : FnScope N__law_by ["one", "other"] (defScope (top 42)) := ⟨rfl, rfl, rfl, by decide +kernel, rfl, by decide +kernel, by decide +kernel⟩
def C__law_gather : Ck := ck N__law_gather (defScope (top 43)) [("_law_plus", 2, φ__law_plus)] [] ["known"]
theorem t__law_gather : trS 40 60 (C__law_gather) (defBody (top 43)) = some (m__law_gather) := by kernel_rfl
theorem s__law_gather : FnScope N__law_gather ["pairs"] (defScope (top 43)) := ⟨rfl, rfl, rfl, by decide +kernel, rfl, by decide +kernel, by decide +kernel⟩
def C__law_scaled : Ck := ck N__law_scaled (defScope (top 44)) [("_law_gather", 1, φ__law_gather), ("_law_by", 2, φ__law_by)] [] []
theorem t__law_scaled : trS 40 60 (C__law_scaled) (defBody (top 44)) = some (m__law_scaled) := by kernel_rfl
theorem s__law_scaled : FnScope N__law_scaled ["number", "one"] (defScope (top 44)) := ⟨rfl, rfl, rfl, by decide +kernel, rfl, by decide +kernel, by decide +kernel⟩
def C__law_total : Ck := ck N__law_total (defScope (top 45)) [("_law_gather", 1, φ__law_gather)] [] []
theorem t__law_total : trS 40 60 (C__law_total) (defBody (top 45)) = some (m__law_total) := by kernel_rfl
theorem s__law_total : FnScope N__law_total ["one", "other"] (defScope (top 45)) := ⟨rfl, rfl, rfl, by decide +kernel, rfl, by decide +kernel, by decide +kernel⟩
def C__law_slope : Ck := ck N__law_slope (defScope (top 46)) [("_law_gather", 1, φ__law_gather), ("_law_by", 2, φ__law_by)] [167012] []
theorem t__law_slope : trS 40 60 (C__law_slope) (defBody (top 46)) = some (m__law_slope) := by kernel_rfl
theorem s__law_slope : FnScope N__law_slope ["one", "index"] (defScope (top 46)) := ⟨rfl, rfl, rfl, by decide +kernel, rfl, by decide +kernel, by decide +kernel⟩
def C__law_fraction : Ck := ck N__law_fraction (defScope (top 47)) [("_law_make", 2, φ__law_make), ("_law_draw", 2, φ__law_draw)] [] []
theorem t__law_fraction : trS 40 60 (C__law_fraction) (defBody (top 47)) = some (m__law_fraction) := by kernel_rfl
theorem s__law_fraction : FnScope N__law_fraction ["tape"] (defScope (top 47)) := ⟨rfl, rfl, rfl, by decide +kernel, rfl, by decide +kernel, by decide +kernel⟩
def C__law_term : Ck := ck N__law_term (defScope (top 48)) [("_law_draw", 2, φ__law_draw)] [175045] []
theorem t__law_term : trS 40 60 (C__law_term) (defBody (top 48)) = some (m__law_term) := by kernel_rfl
theorem s__law_term : FnScope N__law_term ["tape", "count", "most"] (defScope (top 48)) := ⟨rfl, rfl, rfl, by decide +kernel, rfl, by decide +kernel, by decide +kernel⟩
def C__law_poly : Ck := ck N__law_poly (defScope (top 49)) [("_law_gather", 1, φ__law_gather), ("_law_term", 3, φ__law_term), ("_law_fraction", 1, φ__law_fraction), ("_law_draw", 2, φ__law_draw)] [] []
theorem t__law_poly : trS 40 60 (C__law_poly) (defBody (top 49)) = some (m__law_poly) := by kernel_rfl
theorem s__law_poly : FnScope N__law_poly ["tape", "count", "most", "size"] (defScope (top 49)) := ⟨rfl, rfl, rfl, by decide +kernel, rfl, by decide +kernel, by decide +kernel⟩
def C__law_acted : Ck := ck N__law_acted (defScope (top 50)) [("_law_total", 2, φ__law_total), ("_law_scaled", 2, φ__law_scaled), ("_law_slope", 2, φ__law_slope)] [] []
theorem t__law_acted : trS 40 60 (C__law_acted) (defBody (top 50)) = some (m__law_acted) := by kernel_rfl
theorem s__law_acted : FnScope N__law_acted ["one", "other"] (defScope (top 50)) := ⟨rfl, rfl, rfl, by decide +kernel, rfl, by decide +kernel, by decide +kernel⟩
def C_law : Ck := ck N_law (defScope (top 51)) [("_law_tape", 1, φ__law_tape), ("_law_acted", 2, φ__law_acted), ("_law_same", 2, (φ__law_same 9)), ("_law_draw", 2, φ__law_draw), ("_law_poly", 4, φ__law_poly), ("_law_term", 3, φ__law_term), ("_law_gather", 1, φ__law_gather), ("acted", 3, φ_acted), ("_law_total", 2, φ__law_total), ("falls", 2, φ_falls), ("by_slopes", 3, φ_by_slopes), ("product_rule", 4, φ_product_rule)] [] []
theorem t_law : trS 40 60 (C_law) (defBody (top 51)) = some (m_law) := by kernel_rfl
theorem s_law : FnScope N_law ["script"] (defScope (top 51)) := ⟨rfl, rfl, rfl, by decide +kernel, rfl, by decide +kernel, by decide +kernel⟩

end Q
set_option Elab.async false
set_option linter.all false
set_option maxRecDepth 100000
set_option maxHeartbeats 4000000
namespace Q
open PySem PySem.Spec PyProof.Rows L2 Fw
theorem fnA_bad {P : Program} {w : World} {K : PySem.W.Frag} {mg : Str → Option Value} {base : Heap} {ex : Nat → Addr} {k : Nat} {x : Str} {ps : List Str} {a : Addr} {fd : FuncData} (kp : PySem.W.keepIn K (.ref a) = true) (hg : mg x = some (.ref a)) (hb : Binds K fd ps []) : FnA P w K mg base ex k x ps (fun _ => bad) :=
  ⟨a, fd, hg, kp, hb, ⟨fun vs H Q E h => h.1, fun A outer s H args us vs Q E _ _ _ _ h => by
    obtain ⟨_, _, _, _, _, _, z⟩ := h
    exact z.elim⟩⟩
def exA (K : PySem.W.Frag) : Nat → Addr := fun i => He.ga K (match i with
  | 0 => "BadNumber"
  | 1 => "BadPoly"
  | _ => "")
set_option maxHeartbeats 8000000 in
theorem all_ok {P : Program} {w : World} {K : PySem.W.Frag} {h : Heap} {mg : Str → Option Value} (X : K.In h) (G : h.Ns mainGlobals mg) (c : He.SaysD fa fn K) (ck0 : konsB kons K = true) {fdl : FuncData} (Fl : FunD K (mkD "law" "law" 51).name (mkD "law" "law" 51).qual (mkD "law" "law" 51).params (mkD "law" "law" 51).body (mkD "law" "law" 51).scope ((mkD "law" "law" 51).dvs K) ((mkD "law" "law" 51).kws K) (He.fAd K (mkD "law" "law" 51).at_) fdl) (base : Heap) : FnOk P w K mg base (L2.CX P w) 30 (He.ga K "law") fdl ["script"] (spF ⟨K, P, w, exA K⟩ 1 φ_law) := by
  have hgl : ∀ (i : Nat) (n : Str), fa[i]? = some (.glo n) → mg n = some (.ref (He.ga K n)) := fun i n e => He.glo_ok X G (c.fact i e)
  generalize hex : exA K = ex
  have e0 : ex 0 = He.ga K "BadNumber" := by rw [← hex]; rfl
  have e1 : ex 1 = He.ga K "BadPoly" := by rw [← hex]; rfl
  have hfree : ∀ x ∈ frees, mg x = none := fun x hx => He.free_ok X G (c.facts (show He.Fa.free x ∈ fa from List.mem_append_right _ (List.mem_map.mpr ⟨x, hx, rfl⟩)))
  have hglo : ∀ x d, glos.lookup x = some d → ∃ u v, mg x = some u ∧ RelV v u ∧ ∀ W, Dq K W v d := kons_get X G ck0
  have hexs : ∀ x d, exsL.lookup x = some d → mg x = some (.ref (ex d)) ∧ PySem.W.keepIn K (.ref (ex d)) = true ∧ PySem.W.excIn K (ex d) He.veBase "ValueError.__new__" = true ∧ PySem.W.subIn K (.ref (ex d)) (.type "BaseException") = some true ∧ PySem.W.typeIn K (.ref (ex d)) = some (.type "type") := fun x d e => by
    have m := PySem.mem_of_lookup e
    simp only [exsL, List.mem_cons, List.not_mem_nil, or_false, Prod.mk.injEq] at m
    rcases m with ⟨rfl, rfl⟩ | ⟨rfl, rfl⟩
    · obtain ⟨h1, h2, h3, h4⟩ := He.exc_ok (c.fact 40 (f := .exc "BadNumber") rfl)
      rw [e0]
      exact ⟨hgl 38 "BadNumber" rfl, h2, h1, h3, h4⟩
    · obtain ⟨h1, h2, h3, h4⟩ := He.exc_ok (c.fact 41 (f := .exc "BadPoly") rfl)
      rw [e1]
      exact ⟨hgl 39 "BadPoly" rfl, h2, h1, h3, h4⟩
  have hisa : ∀ a b r, isa0 a b = some r → PySem.W.exmOne K (.ref (ex a)) (.ref (ex b)) = some r := fun a b r e => by
    unfold isa0 at e
    split at e
    · rename_i h
      cases e
      rw [h.1, h.2, e0]
      exact He.exm_ok (c.fact 42 (f := .exm "BadNumber" "BadNumber" true) rfl)
    split at e
    · rename_i h
      cases e
      rw [h.1, h.2, e0, e1]
      exact He.exm_ok (c.fact 43 (f := .exm "BadNumber" "BadPoly" false) rfl)
    split at e
    · rename_i h
      cases e
      rw [h.1, h.2, e1, e0]
      exact He.exm_ok (c.fact 44 (f := .exm "BadPoly" "BadNumber" false) rfl)
    split at e
    · rename_i h
      cases e
      rw [h.1, h.2, e1]
      exact He.exm_ok (c.fact 45 (f := .exm "BadPoly" "BadPoly" true) rfl)
    cases e
  have ctx : ∀ {N : List Str} {sc : Scope} {fs : List (Str × Nat × (List D → M D))} {mu : List Nat} {dct : List Str} {k : Nat}, (∀ p ∈ fs, ∃ ps : List Str, ps.length = p.2.1 ∧ FnA P w K mg base ex k p.1 ps p.2.2) → Ctx P w K mg base ex (ck N sc fs mu dct) k := fun h =>
    ⟨hfree, hglo, fun x q e => h (x, q) (PySem.mem_of_lookup e), hexs, hisa⟩
  have mkCtx := @ctx
  obtain ⟨fd0, F0⟩ := c.def_ 0 (d := mkD "is_integer" "is_integer" 6) rfl
  have b0 : Binds K fd0 ["value"] [] := FunD.bindsN (ps := ["value"]) F0 fun _ _ _ _ _ _ us hl => match us, hl with | [_], _ => rfl
  have h_is_integer : FnA P w K mg base ex 1 "is_integer" ["value"] φ_is_integer := fn_ok (C := C_is_integer) (k := 0) (mkCtx (fun _ h => absurd h List.not_mem_nil)) F0 s_is_integer rfl t_is_integer (hgl 0 "is_integer" rfl) b0
  obtain ⟨fd1, F1⟩ := c.def_ 2 (d := mkD "divisor" "divisor" 8) rfl
  have b1 : Binds K fd1 ["one", "other"] [] := FunD.bindsN (ps := ["one", "other"]) F1 fun _ _ _ _ _ _ us hl => match us, hl with | [_, _], _ => rfl
  have h_divisor : FnA P w K mg base ex 1 "divisor" ["one", "other"] φ_divisor := fn_ok (C := C_divisor) (k := 0) (mkCtx (fun _ h => absurd h List.not_mem_nil)) F1 s_divisor rfl t_divisor (hgl 2 "divisor" rfl) b1
  obtain ⟨fd2, F2⟩ := c.def_ 1 (d := mkD "is_ratio" "is_ratio" 7) rfl
  have b2 : Binds K fd2 ["value"] [] := FunD.bindsN (ps := ["value"]) F2 fun _ _ _ _ _ _ us hl => match us, hl with | [_], _ => rfl
  have h_is_ratio : FnA P w K mg base ex 2 "is_ratio" ["value"] φ_is_ratio := fn_ok (C := C_is_ratio) (k := 1) (mkCtx (List.forall_mem_cons.mpr ⟨⟨["one", "other"], rfl, FnA.mono (h_divisor) (by decide)⟩, List.forall_mem_cons.mpr ⟨⟨["value"], rfl, FnA.mono (h_is_integer) (by decide)⟩, fun _ h => absurd h List.not_mem_nil⟩⟩)) F2 s_is_ratio rfl t_is_ratio (hgl 1 "is_ratio" rfl) b2
  obtain ⟨fd3, F3⟩ := c.def_ 3 (d := mkD "make" "make" 9) rfl
  have b3 : Binds K fd3 ["above", "below"] [] := FunD.bindsN (ps := ["above", "below"]) F3 fun _ _ _ _ _ _ us hl => match us, hl with | [_, _], _ => rfl
  have h_make : FnA P w K mg base ex 2 "make" ["above", "below"] φ_make := fn_ok (C := C_make) (k := 1) (mkCtx (List.forall_mem_cons.mpr ⟨⟨["one", "other"], rfl, FnA.mono (h_divisor) (by decide)⟩, fun _ h => absurd h List.not_mem_nil⟩)) F3 s_make rfl t_make (hgl 3 "make" rfl) b3
  obtain ⟨fd4, F4⟩ := c.def_ 4 (d := mkD "of" "of" 10) rfl
  have b4 : Binds K fd4 ["integer"] [] := FunD.bindsN (ps := ["integer"]) F4 fun _ _ _ _ _ _ us hl => match us, hl with | [_], _ => rfl
  have h_of : FnA P w K mg base ex 1 "of" ["integer"] φ_of := fn_ok (C := C_of) (k := 0) (mkCtx (fun _ h => absurd h List.not_mem_nil)) F4 s_of rfl t_of (hgl 4 "of" rfl) b4
  obtain ⟨fd5, F5⟩ := c.def_ 5 (d := mkD "add_ratios" "add" 11) rfl
  have b5 : Binds K fd5 ["one", "other"] [] := FunD.bindsN (ps := ["one", "other"]) F5 fun _ _ _ _ _ _ us hl => match us, hl with | [_, _], _ => rfl
  have h_add_ratios : FnA P w K mg base ex 3 "add_ratios" ["one", "other"] φ_add_ratios := fn_ok (C := C_add_ratios) (k := 2) (mkCtx (List.forall_mem_cons.mpr ⟨⟨["above", "below"], rfl, FnA.mono (h_make) (by decide)⟩, fun _ h => absurd h List.not_mem_nil⟩)) F5 s_add_ratios rfl t_add_ratios (hgl 5 "add_ratios" rfl) b5
  obtain ⟨fd6, F6⟩ := c.def_ 6 (d := mkD "multiply_ratios" "multiply" 13) rfl
  have b6 : Binds K fd6 ["one", "other"] [] := FunD.bindsN (ps := ["one", "other"]) F6 fun _ _ _ _ _ _ us hl => match us, hl with | [_, _], _ => rfl
  have h_multiply_ratios : FnA P w K mg base ex 3 "multiply_ratios" ["one", "other"] φ_multiply_ratios := fn_ok (C := C_multiply_ratios) (k := 2) (mkCtx (List.forall_mem_cons.mpr ⟨⟨["above", "below"], rfl, FnA.mono (h_make) (by decide)⟩, fun _ h => absurd h List.not_mem_nil⟩)) F6 s_multiply_ratios rfl t_multiply_ratios (hgl 6 "multiply_ratios" rfl) b6
  obtain ⟨fd7, F7⟩ := c.def_ 7 (d := mkD "is_monomial" "is_monomial" 16) rfl
  have b7 : Binds K fd7 ["value", "count"] [] := FunD.bindsN (ps := ["value", "count"]) F7 fun _ _ _ _ _ _ us hl => match us, hl with | [_, _], _ => rfl
  have h_is_monomial : FnA P w K mg base ex 2 "is_monomial" ["value", "count"] φ_is_monomial := fn_ok (C := C_is_monomial) (k := 1) (mkCtx (List.forall_mem_cons.mpr ⟨⟨["value"], rfl, FnA.mono (h_is_integer) (by decide)⟩, fun _ h => absurd h List.not_mem_nil⟩)) F7 s_is_monomial rfl t_is_monomial (hgl 7 "is_monomial" rfl) b7
  obtain ⟨fd8, F8⟩ := c.def_ 8 (d := mkD "times" "times" 17) rfl
  have b8 : Binds K fd8 ["one", "other"] [] := FunD.bindsN (ps := ["one", "other"]) F8 fun _ _ _ _ _ _ us hl => match us, hl with | [_, _], _ => rfl
  have h_times : FnA P w K mg base ex 1 "times" ["one", "other"] φ_times := fn_ok (C := C_times) (k := 0) (mkCtx (fun _ h => absurd h List.not_mem_nil)) F8 s_times rfl t_times (hgl 8 "times" rfl) b8
  obtain ⟨fd9, F9⟩ := c.def_ 9 (d := mkD "divides" "divides" 18) rfl
  have b9 : Binds K fd9 ["one", "other"] [] := FunD.bindsN (ps := ["one", "other"]) F9 fun _ _ _ _ _ _ us hl => match us, hl with | [_, _], _ => rfl
  have h_divides : FnA P w K mg base ex 1 "divides" ["one", "other"] φ_divides := fn_ok (C := C_divides) (k := 0) (mkCtx (fun _ h => absurd h List.not_mem_nil)) F9 s_divides rfl t_divides (hgl 9 "divides" rfl) b9
  obtain ⟨fd10, F10⟩ := c.def_ 10 (d := mkD "over" "over" 19) rfl
  have b10 : Binds K fd10 ["one", "other"] [] := FunD.bindsN (ps := ["one", "other"]) F10 fun _ _ _ _ _ _ us hl => match us, hl with | [_, _], _ => rfl
  have h_over : FnA P w K mg base ex 2 "over" ["one", "other"] φ_over := fn_ok (C := C_over) (k := 1) (mkCtx (List.forall_mem_cons.mpr ⟨⟨["one", "other"], rfl, FnA.mono (h_divides) (by decide)⟩, fun _ h => absurd h List.not_mem_nil⟩)) F10 s_over rfl t_over (hgl 10 "over" rfl) b10
  obtain ⟨fd11, F11⟩ := c.def_ 11 (d := mkD "is_poly" "is_poly" 21) rfl
  have b11 : Binds K fd11 ["value", "count"] [] := FunD.bindsN (ps := ["value", "count"]) F11 fun _ _ _ _ _ _ us hl => match us, hl with | [_, _], _ => rfl
  have h_is_poly : FnA P w K mg base ex 3 "is_poly" ["value", "count"] φ_is_poly := fn_ok (C := C_is_poly) (k := 2) (mkCtx (List.forall_mem_cons.mpr ⟨⟨["value", "count"], rfl, FnA.mono (h_is_monomial) (by decide)⟩, List.forall_mem_cons.mpr ⟨⟨["value"], rfl, FnA.mono (h_is_ratio) (by decide)⟩, fun _ h => absurd h List.not_mem_nil⟩⟩)) F11 s_is_poly rfl t_is_poly (hgl 11 "is_poly" rfl) b11
  obtain ⟨fd12, F12⟩ := c.def_ 12 (d := mkD "check_poly" "check_poly" 22) rfl
  have b12 : Binds K fd12 ["value", "count"] [] := FunD.bindsN (ps := ["value", "count"]) F12 fun _ _ _ _ _ _ us hl => match us, hl with | [_, _], _ => rfl
  have h_check_poly : FnA P w K mg base ex 4 "check_poly" ["value", "count"] φ_check_poly := fn_ok (C := C_check_poly) (k := 3) (mkCtx (List.forall_mem_cons.mpr ⟨⟨["value", "count"], rfl, FnA.mono (h_is_poly) (by decide)⟩, fun _ h => absurd h List.not_mem_nil⟩)) F12 s_check_poly rfl t_check_poly (hgl 12 "check_poly" rfl) b12
  obtain ⟨fd13, F13⟩ := c.def_ 13 (d := mkD "gathered" "gathered" 23) rfl
  have b13 : Binds K fd13 ["pairs"] [] := FunD.bindsN (ps := ["pairs"]) F13 fun _ _ _ _ _ _ us hl => match us, hl with | [_], _ => rfl
  have h_gathered : FnA P w K mg base ex 4 "gathered" ["pairs"] φ_gathered := fn_ok (C := C_gathered) (k := 3) (mkCtx (List.forall_mem_cons.mpr ⟨⟨["one", "other"], rfl, FnA.mono (h_add_ratios) (by decide)⟩, fun _ h => absurd h List.not_mem_nil⟩)) F13 s_gathered rfl t_gathered (hgl 13 "gathered" rfl) b13
  obtain ⟨fd14, F14⟩ := c.def_ 14 (d := mkD "add_polys" "add" 24) rfl
  have b14 : Binds K fd14 ["one", "other"] [] := FunD.bindsN (ps := ["one", "other"]) F14 fun _ _ _ _ _ _ us hl => match us, hl with | [_, _], _ => rfl
  have h_add_polys : FnA P w K mg base ex 5 "add_polys" ["one", "other"] φ_add_polys := fn_ok (C := C_add_polys) (k := 4) (mkCtx (List.forall_mem_cons.mpr ⟨⟨["pairs"], rfl, FnA.mono (h_gathered) (by decide)⟩, fun _ h => absurd h List.not_mem_nil⟩)) F14 s_add_polys rfl t_add_polys (hgl 14 "add_polys" rfl) b14
  obtain ⟨fd15, F15⟩ := c.def_ 15 (d := mkD "scaled" "scaled" 26) rfl
  have b15 : Binds K fd15 ["number", "one"] [] := FunD.bindsN (ps := ["number", "one"]) F15 fun _ _ _ _ _ _ us hl => match us, hl with | [_, _], _ => rfl
  have h_scaled : FnA P w K mg base ex 4 "scaled" ["number", "one"] φ_scaled := fn_ok (C := C_scaled) (k := 3) (mkCtx (List.forall_mem_cons.mpr ⟨⟨["one", "other"], rfl, FnA.mono (h_multiply_ratios) (by decide)⟩, fun _ h => absurd h List.not_mem_nil⟩)) F15 s_scaled rfl t_scaled (hgl 15 "scaled" rfl) b15
  obtain ⟨fd16, F16⟩ := c.def_ 16 (d := mkD "shifted" "shifted" 27) rfl
  have b16 : Binds K fd16 ["step", "one"] [] := FunD.bindsN (ps := ["step", "one"]) F16 fun _ _ _ _ _ _ us hl => match us, hl with | [_, _], _ => rfl
  have h_shifted : FnA P w K mg base ex 4 "shifted" ["step", "one"] φ_shifted := fn_ok (C := C_shifted) (k := 3) (mkCtx (List.forall_mem_cons.mpr ⟨⟨["one", "other"], rfl, FnA.mono (h_times) (by decide)⟩, List.forall_mem_cons.mpr ⟨⟨["one", "other"], rfl, FnA.mono (h_multiply_ratios) (by decide)⟩, fun _ h => absurd h List.not_mem_nil⟩⟩)) F16 s_shifted rfl t_shifted (hgl 16 "shifted" rfl) b16
  obtain ⟨fd17, F17⟩ := c.def_ 17 (d := mkD "multiply_polys" "multiply" 28) rfl
  have b17 : Binds K fd17 ["one", "other"] [] := FunD.bindsN (ps := ["one", "other"]) F17 fun _ _ _ _ _ _ us hl => match us, hl with | [_, _], _ => rfl
  have h_multiply_polys : FnA P w K mg base ex 5 "multiply_polys" ["one", "other"] φ_multiply_polys := fn_ok (C := C_multiply_polys) (k := 4) (mkCtx (List.forall_mem_cons.mpr ⟨⟨["pairs"], rfl, FnA.mono (h_gathered) (by decide)⟩, List.forall_mem_cons.mpr ⟨⟨["step", "one"], rfl, FnA.mono (h_shifted) (by decide)⟩, fun _ h => absurd h List.not_mem_nil⟩⟩)) F17 s_multiply_polys rfl t_multiply_polys (hgl 17 "multiply_polys" rfl) b17
  obtain ⟨fd18, F18⟩ := c.def_ 18 (d := mkD "slope" "slope" 30) rfl
  have b18 : Binds K fd18 ["one", "index"] [] := FunD.bindsN (ps := ["one", "index"]) F18 fun _ _ _ _ _ _ us hl => match us, hl with | [_, _], _ => rfl
  have h_slope : FnA P w K mg base ex 5 "slope" ["one", "index"] φ_slope := fn_ok (C := C_slope) (k := 4) (mkCtx (List.forall_mem_cons.mpr ⟨⟨["pairs"], rfl, FnA.mono (h_gathered) (by decide)⟩, List.forall_mem_cons.mpr ⟨⟨["one", "other"], rfl, FnA.mono (h_multiply_ratios) (by decide)⟩, List.forall_mem_cons.mpr ⟨⟨["integer"], rfl, FnA.mono (h_of) (by decide)⟩, fun _ h => absurd h List.not_mem_nil⟩⟩⟩)) F18 s_slope rfl t_slope (hgl 18 "slope" rfl) b18
  obtain ⟨fd19, F19⟩ := c.def_ 20 (d := mkD "falls" "falls" 33) rfl
  have b19 : Binds K fd19 ["one", "other"] [] := FunD.bindsN (ps := ["one", "other"]) F19 fun _ _ _ _ _ _ us hl => match us, hl with | [_, _], _ => rfl
  have h_falls : FnA P w K mg base ex 1 "falls" ["one", "other"] φ_falls := fn_ok (C := C_falls) (k := 0) (mkCtx (fun _ h => absurd h List.not_mem_nil)) F19 s_falls rfl t_falls (hgl 20 "falls" rfl) b19
  obtain ⟨fd20, F20⟩ := c.def_ 19 (d := mkD "acted" "acted" 32) rfl
  have b20 : Binds K fd20 ["one", "other", "count"] [] := FunD.bindsN (ps := ["one", "other", "count"]) F20 fun _ _ _ _ _ _ us hl => match us, hl with | [_, _, _], _ => rfl
  have h_acted : FnA P w K mg base ex 6 "acted" ["one", "other", "count"] φ_acted := fn_ok (C := C_acted) (k := 5) (mkCtx (List.forall_mem_cons.mpr ⟨⟨["value", "count"], rfl, FnA.mono (h_check_poly) (by decide)⟩, List.forall_mem_cons.mpr ⟨⟨["one", "other"], rfl, FnA.mono (h_add_polys) (by decide)⟩, List.forall_mem_cons.mpr ⟨⟨["one", "other"], rfl, FnA.mono (h_divides) (by decide)⟩, List.forall_mem_cons.mpr ⟨⟨["pairs"], rfl, FnA.mono (h_gathered) (by decide)⟩, List.forall_mem_cons.mpr ⟨⟨["one", "other"], rfl, FnA.mono (h_multiply_ratios) (by decide)⟩, List.forall_mem_cons.mpr ⟨⟨["integer"], rfl, FnA.mono (h_of) (by decide)⟩, List.forall_mem_cons.mpr ⟨⟨["one", "other"], rfl, FnA.mono (h_falls) (by decide)⟩, List.forall_mem_cons.mpr ⟨⟨["one", "other"], rfl, FnA.mono (h_over) (by decide)⟩, fun _ h => absurd h List.not_mem_nil⟩⟩⟩⟩⟩⟩⟩⟩)) F20 s_acted rfl t_acted (hgl 19 "acted" rfl) b20
  obtain ⟨fd21, F21⟩ := c.def_ 21 (d := mkD "by_slopes" "by_slopes" 34) rfl
  have b21 : Binds K fd21 ["one", "other", "count"] [] := FunD.bindsN (ps := ["one", "other", "count"]) F21 fun _ _ _ _ _ _ us hl => match us, hl with | [_, _, _], _ => rfl
  have h_by_slopes : FnA P w K mg base ex 6 "by_slopes" ["one", "other", "count"] φ_by_slopes := fn_ok (C := C_by_slopes) (k := 5) (mkCtx (List.forall_mem_cons.mpr ⟨⟨["value", "count"], rfl, FnA.mono (h_check_poly) (by decide)⟩, List.forall_mem_cons.mpr ⟨⟨["one", "other"], rfl, FnA.mono (h_add_polys) (by decide)⟩, List.forall_mem_cons.mpr ⟨⟨["number", "one"], rfl, FnA.mono (h_scaled) (by decide)⟩, List.forall_mem_cons.mpr ⟨⟨["one", "index"], rfl, FnA.mono (h_slope) (by decide)⟩, fun _ h => absurd h List.not_mem_nil⟩⟩⟩⟩)) F21 s_by_slopes rfl t_by_slopes (hgl 21 "by_slopes" rfl) b21
  obtain ⟨fd22, F22⟩ := c.def_ 22 (d := mkD "product_rule" "product_rule" 35) rfl
  have b22 : Binds K fd22 ["one", "other", "poly", "count"] [] := FunD.bindsN (ps := ["one", "other", "poly", "count"]) F22 fun _ _ _ _ _ _ us hl => match us, hl with | [_, _, _, _], _ => rfl
  have h_product_rule : FnA P w K mg base ex 7 "product_rule" ["one", "other", "poly", "count"] φ_product_rule := fn_ok (C := C_product_rule) (k := 6) (mkCtx (List.forall_mem_cons.mpr ⟨⟨["one", "other", "count"], rfl, FnA.mono (h_acted) (by decide)⟩, List.forall_mem_cons.mpr ⟨⟨["one", "other"], rfl, FnA.mono (h_multiply_polys) (by decide)⟩, fun _ h => absurd h List.not_mem_nil⟩⟩)) F22 s_product_rule rfl t_product_rule (hgl 22 "product_rule" rfl) b22
  obtain ⟨fd23, F23⟩ := c.def_ 23 (d := mkD "_law_tape" "_law_tape" 37) rfl
  have b23 : Binds K fd23 ["script"] [] := FunD.bindsN (ps := ["script"]) F23 fun _ _ _ _ _ _ us hl => match us, hl with | [_], _ => rfl
  have h__law_tape : FnA P w K mg base ex 1 "_law_tape" ["script"] φ__law_tape := fn_ok (C := C__law_tape) (k := 0) (mkCtx (fun _ h => absurd h List.not_mem_nil)) F23 s__law_tape rfl t__law_tape (hgl 23 "_law_tape" rfl) b23
  obtain ⟨fd24, F24⟩ := c.def_ 24 (d := mkD "_law_draw" "_law_draw" 38) rfl
  have b24 : Binds K fd24 ["tape", "many"] [] := FunD.bindsN (ps := ["tape", "many"]) F24 fun _ _ _ _ _ _ us hl => match us, hl with | [_, _], _ => rfl
  have h__law_draw : FnA P w K mg base ex 1 "_law_draw" ["tape", "many"] φ__law_draw := fn_ok (C := C__law_draw) (k := 0) (mkCtx (fun _ h => absurd h List.not_mem_nil)) F24 s__law_draw rfl t__law_draw (hgl 24 "_law_draw" rfl) b24
  obtain ⟨fd25, F25⟩ := c.def_ 25 (d := mkD "_law_same" "_law_same" 39) rfl
  have b25 : Binds K fd25 ["actual", "due"] [] := FunD.bindsN (ps := ["actual", "due"]) F25 fun _ _ _ _ _ _ us hl => match us, hl with | [_, _], _ => rfl
  have h__law_same : ∀ n, FnA P w K mg base ex (1 + n) "_law_same" ["actual", "due"] (φ__law_same n) := by
    intro n
    induction n with
    | zero => exact fnA_bad F25.kp (hgl 25 "_law_same" rfl) b25
    | succ n hs => exact fn_ok (C := C__law_same (φ__law_same n)) (k := 1 + n) (mkCtx (List.forall_mem_cons.mpr ⟨⟨["actual", "due"], rfl, FnA.mono (hs) (by omega)⟩, fun _ h => absurd h List.not_mem_nil⟩)) F25 s__law_same rfl (t__law_same _) (hgl 25 "_law_same" rfl) b25
  obtain ⟨fd26, F26⟩ := c.def_ 26 (d := mkD "_law_make" "_law_make" 40) rfl
  have b26 : Binds K fd26 ["above", "under"] [] := FunD.bindsN (ps := ["above", "under"]) F26 fun _ _ _ _ _ _ us hl => match us, hl with | [_, _], _ => rfl
  have h__law_make : FnA P w K mg base ex 1 "_law_make" ["above", "under"] φ__law_make := fn_ok (C := C__law_make) (k := 0) (mkCtx (fun _ h => absurd h List.not_mem_nil)) F26 s__law_make rfl t__law_make (hgl 26 "_law_make" rfl) b26
  obtain ⟨fd27, F27⟩ := c.def_ 27 (d := mkD "_law_plus" "_law_plus" 41) rfl
  have b27 : Binds K fd27 ["one", "other"] [] := FunD.bindsN (ps := ["one", "other"]) F27 fun _ _ _ _ _ _ us hl => match us, hl with | [_, _], _ => rfl
  have h__law_plus : FnA P w K mg base ex 2 "_law_plus" ["one", "other"] φ__law_plus := fn_ok (C := C__law_plus) (k := 1) (mkCtx (List.forall_mem_cons.mpr ⟨⟨["above", "under"], rfl, FnA.mono (h__law_make) (by decide)⟩, fun _ h => absurd h List.not_mem_nil⟩)) F27 s__law_plus rfl t__law_plus (hgl 27 "_law_plus" rfl) b27
  obtain ⟨fd28, F28⟩ := c.def_ 28 (d := mkD "_law_by" "_law_by" 42) rfl
  have b28 : Binds K fd28 ["one", "other"] [] := FunD.bindsN (ps := ["one", "other"]) F28 fun _ _ _ _ _ _ us hl => match us, hl with | [_, _], _ => rfl
  have h__law_by : FnA P w K mg base ex 2 "_law_by" ["one", "other"] φ__law_by := fn_ok (C := C__law_by) (k := 1) (mkCtx (List.forall_mem_cons.mpr ⟨⟨["above", "under"], rfl, FnA.mono (h__law_make) (by decide)⟩, fun _ h => absurd h List.not_mem_nil⟩)) F28 s__law_by rfl t__law_by (hgl 28 "_law_by" rfl) b28
  obtain ⟨fd29, F29⟩ := c.def_ 29 (d := mkD "_law_gather" "_law_gather" 43) rfl
  have b29 : Binds K fd29 ["pairs"] [] := FunD.bindsN (ps := ["pairs"]) F29 fun _ _ _ _ _ _ us hl => match us, hl with | [_], _ => rfl
  have h__law_gather : FnA P w K mg base ex 3 "_law_gather" ["pairs"] φ__law_gather := fn_ok (C := C__law_gather) (k := 2) (mkCtx (List.forall_mem_cons.mpr ⟨⟨["one", "other"], rfl, FnA.mono (h__law_plus) (by decide)⟩, fun _ h => absurd h List.not_mem_nil⟩)) F29 s__law_gather rfl t__law_gather (hgl 29 "_law_gather" rfl) b29
  obtain ⟨fd30, F30⟩ := c.def_ 30 (d := mkD "_law_scaled" "_law_scaled" 44) rfl
  have b30 : Binds K fd30 ["number", "one"] [] := FunD.bindsN (ps := ["number", "one"]) F30 fun _ _ _ _ _ _ us hl => match us, hl with | [_, _], _ => rfl
  have h__law_scaled : FnA P w K mg base ex 4 "_law_scaled" ["number", "one"] φ__law_scaled := fn_ok (C := C__law_scaled) (k := 3) (mkCtx (List.forall_mem_cons.mpr ⟨⟨["pairs"], rfl, FnA.mono (h__law_gather) (by decide)⟩, List.forall_mem_cons.mpr ⟨⟨["one", "other"], rfl, FnA.mono (h__law_by) (by decide)⟩, fun _ h => absurd h List.not_mem_nil⟩⟩)) F30 s__law_scaled rfl t__law_scaled (hgl 30 "_law_scaled" rfl) b30
  obtain ⟨fd31, F31⟩ := c.def_ 31 (d := mkD "_law_total" "_law_total" 45) rfl
  have b31 : Binds K fd31 ["one", "other"] [] := FunD.bindsN (ps := ["one", "other"]) F31 fun _ _ _ _ _ _ us hl => match us, hl with | [_, _], _ => rfl
  have h__law_total : FnA P w K mg base ex 4 "_law_total" ["one", "other"] φ__law_total := fn_ok (C := C__law_total) (k := 3) (mkCtx (List.forall_mem_cons.mpr ⟨⟨["pairs"], rfl, FnA.mono (h__law_gather) (by decide)⟩, fun _ h => absurd h List.not_mem_nil⟩)) F31 s__law_total rfl t__law_total (hgl 31 "_law_total" rfl) b31
  obtain ⟨fd32, F32⟩ := c.def_ 32 (d := mkD "_law_slope" "_law_slope" 46) rfl
  have b32 : Binds K fd32 ["one", "index"] [] := FunD.bindsN (ps := ["one", "index"]) F32 fun _ _ _ _ _ _ us hl => match us, hl with | [_, _], _ => rfl
  have h__law_slope : FnA P w K mg base ex 4 "_law_slope" ["one", "index"] φ__law_slope := fn_ok (C := C__law_slope) (k := 3) (mkCtx (List.forall_mem_cons.mpr ⟨⟨["pairs"], rfl, FnA.mono (h__law_gather) (by decide)⟩, List.forall_mem_cons.mpr ⟨⟨["one", "other"], rfl, FnA.mono (h__law_by) (by decide)⟩, fun _ h => absurd h List.not_mem_nil⟩⟩)) F32 s__law_slope rfl t__law_slope (hgl 32 "_law_slope" rfl) b32
  obtain ⟨fd33, F33⟩ := c.def_ 33 (d := mkD "_law_fraction" "_law_fraction" 47) rfl
  have b33 : Binds K fd33 ["tape"] [] := FunD.bindsN (ps := ["tape"]) F33 fun _ _ _ _ _ _ us hl => match us, hl with | [_], _ => rfl
  have h__law_fraction : FnA P w K mg base ex 2 "_law_fraction" ["tape"] φ__law_fraction := fn_ok (C := C__law_fraction) (k := 1) (mkCtx (List.forall_mem_cons.mpr ⟨⟨["above", "under"], rfl, FnA.mono (h__law_make) (by decide)⟩, List.forall_mem_cons.mpr ⟨⟨["tape", "many"], rfl, FnA.mono (h__law_draw) (by decide)⟩, fun _ h => absurd h List.not_mem_nil⟩⟩)) F33 s__law_fraction rfl t__law_fraction (hgl 33 "_law_fraction" rfl) b33
  obtain ⟨fd34, F34⟩ := c.def_ 34 (d := mkD "_law_term" "_law_term" 48) rfl
  have b34 : Binds K fd34 ["tape", "count", "most"] [] := FunD.bindsN (ps := ["tape", "count", "most"]) F34 fun _ _ _ _ _ _ us hl => match us, hl with | [_, _, _], _ => rfl
  have h__law_term : FnA P w K mg base ex 2 "_law_term" ["tape", "count", "most"] φ__law_term := fn_ok (C := C__law_term) (k := 1) (mkCtx (List.forall_mem_cons.mpr ⟨⟨["tape", "many"], rfl, FnA.mono (h__law_draw) (by decide)⟩, fun _ h => absurd h List.not_mem_nil⟩)) F34 s__law_term rfl t__law_term (hgl 34 "_law_term" rfl) b34
  obtain ⟨fd35, F35⟩ := c.def_ 35 (d := mkD "_law_poly" "_law_poly" 49) rfl
  have b35 : Binds K fd35 ["tape", "count", "most", "size"] [] := FunD.bindsN (ps := ["tape", "count", "most", "size"]) F35 fun _ _ _ _ _ _ us hl => match us, hl with | [_, _, _, _], _ => rfl
  have h__law_poly : FnA P w K mg base ex 4 "_law_poly" ["tape", "count", "most", "size"] φ__law_poly := fn_ok (C := C__law_poly) (k := 3) (mkCtx (List.forall_mem_cons.mpr ⟨⟨["pairs"], rfl, FnA.mono (h__law_gather) (by decide)⟩, List.forall_mem_cons.mpr ⟨⟨["tape", "count", "most"], rfl, FnA.mono (h__law_term) (by decide)⟩, List.forall_mem_cons.mpr ⟨⟨["tape"], rfl, FnA.mono (h__law_fraction) (by decide)⟩, List.forall_mem_cons.mpr ⟨⟨["tape", "many"], rfl, FnA.mono (h__law_draw) (by decide)⟩, fun _ h => absurd h List.not_mem_nil⟩⟩⟩⟩)) F35 s__law_poly rfl t__law_poly (hgl 35 "_law_poly" rfl) b35
  obtain ⟨fd36, F36⟩ := c.def_ 36 (d := mkD "_law_acted" "_law_acted" 50) rfl
  have b36 : Binds K fd36 ["one", "other"] [] := FunD.bindsN (ps := ["one", "other"]) F36 fun _ _ _ _ _ _ us hl => match us, hl with | [_, _], _ => rfl
  have h__law_acted : FnA P w K mg base ex 5 "_law_acted" ["one", "other"] φ__law_acted := fn_ok (C := C__law_acted) (k := 4) (mkCtx (List.forall_mem_cons.mpr ⟨⟨["one", "other"], rfl, FnA.mono (h__law_total) (by decide)⟩, List.forall_mem_cons.mpr ⟨⟨["number", "one"], rfl, FnA.mono (h__law_scaled) (by decide)⟩, List.forall_mem_cons.mpr ⟨⟨["one", "index"], rfl, FnA.mono (h__law_slope) (by decide)⟩, fun _ h => absurd h List.not_mem_nil⟩⟩⟩)) F36 s__law_acted rfl t__law_acted (hgl 36 "_law_acted" rfl) b36
  exact FnOk.mono (fn_okF (C := C_law) (k := 11) (mkCtx (List.forall_mem_cons.mpr ⟨⟨["script"], rfl, FnA.mono (h__law_tape) (by decide)⟩, List.forall_mem_cons.mpr ⟨⟨["one", "other"], rfl, FnA.mono (h__law_acted) (by decide)⟩, List.forall_mem_cons.mpr ⟨⟨["actual", "due"], rfl, FnA.mono (h__law_same 9) (by decide)⟩, List.forall_mem_cons.mpr ⟨⟨["tape", "many"], rfl, FnA.mono (h__law_draw) (by decide)⟩, List.forall_mem_cons.mpr ⟨⟨["tape", "count", "most", "size"], rfl, FnA.mono (h__law_poly) (by decide)⟩, List.forall_mem_cons.mpr ⟨⟨["tape", "count", "most"], rfl, FnA.mono (h__law_term) (by decide)⟩, List.forall_mem_cons.mpr ⟨⟨["pairs"], rfl, FnA.mono (h__law_gather) (by decide)⟩, List.forall_mem_cons.mpr ⟨⟨["one", "other", "count"], rfl, FnA.mono (h_acted) (by decide)⟩, List.forall_mem_cons.mpr ⟨⟨["one", "other"], rfl, FnA.mono (h__law_total) (by decide)⟩, List.forall_mem_cons.mpr ⟨⟨["one", "other"], rfl, FnA.mono (h_falls) (by decide)⟩, List.forall_mem_cons.mpr ⟨⟨["one", "other", "count"], rfl, FnA.mono (h_by_slopes) (by decide)⟩, List.forall_mem_cons.mpr ⟨⟨["one", "other", "poly", "count"], rfl, FnA.mono (h_product_rule) (by decide)⟩, fun _ h => absurd h List.not_mem_nil⟩⟩⟩⟩⟩⟩⟩⟩⟩⟩⟩⟩)) Fl s_law rfl t_law) (by decide)

/-- the law's walk from its def's promise, the exceptions told by the world -/
theorem walkW {lw : PySem.W.OpenLaw} {most lev : Nat} {qp : Program} {lo : List Str} {XQ : (Str → Option Value) → Heap → Prop} {YQ : World → Heap → Prop} {dr : DefRec} {CW : World → CXT} {xn : Str}
    (h1 : lw.most = some most) (h2 : most ≤ sizeLine) (h3 : dr.params.defaults = []) (h4 : Room lev callerA)
    (FF : ∀ (ww : World) (mg : Str → Option Value) (ff : Addr) (hp : Heap), YQ ww hp → hp.Ns mainGlobals mg → mg dr.name = some (.ref ff) →
      ∃ (KK : PySem.W.Frag) (fdd : FuncData) (sq : Sp), KK.In hp ∧ (∀ (sh : Shared) (uu : Value), BindsTo sh fdd ⟨[uu], []⟩ [(xn, uu)]) ∧
        (∀ (HH : Hp) (aa : Addr) (nn : List Int), nn.length ≤ most → Only HH → SqL KK HH aa (nn.map V.int) → sq [.ref aa] HH (fun vv _ => vv = .bl true) fun _ _ _ => False) ∧
        ∀ bs : Heap, KK.In bs → bs.Ns mainGlobals mg → FnOk lw.prog ww KK mg bs (CW ww) lev ff fdd [xn] sq)
    (hC : ∀ (ww : World) (HH : Hp) (sh : Shared) (ee : Value) (sh' : Shared), CW ww [] HH sh (fun _ _ _ => False) ee sh' → False) :
    PySem.W.WalkO qp lo XQ YQ lw.row.toRowW dr [] (fun f vs => PySem.call f vs) := by
  refine Att.attach_call h1 h3 fun ww z0 z1 mg mb ff oo pm cd doc aa vs nn GG YY ho hd hcd hmg hobj hints hlen hg => ?_
  obtain ⟨KK, fdd, sq, k1, k2, k3, k4⟩ := FF ww mg ff _ YY GG.T.g hmg
  exact law_call k1 GG.T.g GG.T.b GG.T.builtins GG.T.nolimit hg hobj hints (Nat.le_trans hlen h2) h4 k4 k2 (fun HH hO hS => k3 HH aa nn hlen hO hS) fun HH ee sh' => hC ww HH z1 ee sh'
theorem start_sp {P : Program} {w : World} {K : PySem.W.Frag} {ex : Nat → Addr} {H : Hp} {a : Addr} {ns : List Int} (hl : ns.length ≤ 63) (hO : Only H) (hS : SqL K H a (ns.map V.int)) : spF ⟨K, P, w, ex⟩ 1 φ_law [.ref a] H (fun v _ => v = .bl true) fun _ _ _ => False := by
  refine ⟨rfl, ⟨H, [], fun _ => none⟩, [.p (.list (ns.map .int))], [], .cons (.lst hS (ints_dq ns)) .nil, ⟨fun b o e => ⟨e, ?_⟩, rfl, fun n b c e => (by simp at e), List.nodup_nil, fun b m => (by cases m), fun n b e => (by simp at e), fun b o e => (by cases e), fun b o e => (by cases e), fun b xs e => (by cases e)⟩, ?_⟩
  · rcases hO b with q | ⟨oo, xs, q⟩
    · rw [show H b = some o from e] at q; cases q
    · rw [show H b = some o from e] at q
      cases q
      exact True.intro
  · have e := law_true ns hl
    rw [e]
    intro w' H' v _ _ r
    have r' : Dq K w'.W v (.bool true) := r
    cases r'
    rfl
end Q
open PySem PySem.W PySem.Calls PyProof.Rows
theorem PySem.Challenge.cw_sumsandrests_k76_whole_polynomials_that_holds : PySem.Challenge.rw_sumsandrests_k76_whole_polynomials_that.Holds := by
  w_on; o_law
  refine HandSHeadRun.head_any (r := OpenLaw.row PySem.Challenge.rw_sumsandrests_k76_whole_polynomials_that) (q := view (OpenLaw.row PySem.Challenge.rw_sumsandrests_k76_whole_polynomials_that).prog [51]) (H := Q.hk) (ob := Q.ob) (M := 6000) (loose := Q.loose)
    (d := HandSHeadRun.topDef (OpenLaw.row PySem.Challenge.rw_sumsandrests_k76_whole_polynomials_that).prog 51) (kwd := []) Q.ob_eq (by kernel_rfl) (fun s => by kernel_rfl) Q.run (by kernel_rfl) (by kernel_rfl) (by kernel_rfl) (by rfl) (by first | assumption | decide +kernel) (by decide +kernel) ⟨rfl, rfl, rfl, rfl, rfl, by decide +kernel⟩ ?hw ?hc
  case hw => w_witness2
  case hc =>
    refine Q.walkW (lw := PySem.Challenge.rw_sumsandrests_k76_whole_polynomials_that) (most := 63) (lev := 30) (xn := "script") (CW := fun w => L2.CX (PySem.Challenge.rw_sumsandrests_k76_whole_polynomials_that).prog w) rfl (by decide) (by kernel_rfl) ⟨rfl, by decide, by decide⟩ ?FF ?hC
    case hC =>
      rintro ww HH sh ee sh' ⟨_, _, _, _, _, _, _, _, _, _, _, _, z⟩
      exact z
    case FF =>
      intro ww mg ff hp YY GG hm0
      obtain ⟨KK, k1, sx⟩ := YY
      have c := sx.t.d
      have hm : mg ("law" : PySem.Str) = some (.ref ff) := by
        have e : (HandSHeadRun.topDef (OpenLaw.row PySem.Challenge.rw_sumsandrests_k76_whole_polynomials_that).prog 51).name = ("law" : PySem.Str) := by kernel_rfl
        rw [← e]
        exact hm0
      obtain ⟨fdd, Fl⟩ := c.def_ 37 (d := Q.mkD "law" "law" 51) rfl
      have e := hm.symm.trans (He.glo_ok k1 GG (c.fact 37 (f := .glo "law") rfl))
      cases e
      have b := L2.FunD.bindsA (ps := ["script"]) Fl fun _ _ _ _ _ _ us hl => match us, hl with | [_], _ => rfl
      exact ⟨KK, fdd, _, k1, fun s v => b s [v] rfl, fun H a ns hl hO hS => Q.start_sp hl hO hS, fun bs _ _ => Q.all_ok k1 GG c sx.more Fl bs⟩

