import PyProof.Rows.All
import Wide.All
import OpenK.AllK
import Wide.FinOn
import HandS.ForMost
import HandS.ForExc
import HandS.Wide
import HandS.IsInst
import HandS.StrMore
import HandS.Defaults
import HandS.WordsExc
import HandS.TryOnly
import HandS.ExcIs
import HandS.ExcField
import HandS.NoneIn
import HandS.ReplaceLit
import KE.KExcIs
import KE.DataEq
import HandS.MakeKw
import HandS.MakeKwOnly
import HandS.More
import HandS.Finally
import PyProof.Rows.SortStr
import PyProof.CollectIter
import PyProof.WalksMore
import HandS.ExcInit
import HandS.New
import KE.KExcInit
import KE.KExcLine
import PyProof.FactsLen
import HandS.WordsDict
import HandS.Iter
import HandS.DictTup
import HandS.TupLen
import HandS.Deep
import HandS.Conv
import KE.KSortTupG
import PySem.Challenge.RW_loadhall_k15_whole_stores_and_forms
set_option Elab.async false
set_option linter.all false
set_option maxRecDepth 100000
set_option maxHeartbeats 4000000
/-! DM0: Python's steps as functions of data: values (Dt), a store of what may change (MO, by numbers), worlds (Wd), how a reading follows such a function. -/
namespace DM
open PySem PySem.Spec PyProof.Rows L2
inductive Dt where
  | non | bl (b : Bool) | int (i : Int) | str (s : Str) | lst (l : List Dt) | tup (l : List Dt) | ptr (i : Nat) | scr (l : List Dt) | ktp (l : List Dt) | ty (n : String) | cls (n : Nat) | exc (n : Nat) (ns : List Str) (ds : List Dt)
/-- what may change -/
inductive MO where
  | lst (ds : List Dt) | dK (kvs : List (Key × Dt)) | dT (kvs : List (List Key × Dt)) | ins (n : Nat) (fs : List (Str × Dt)) | gone | lk (kvs : List (Key × Dt)) | lkT (kvs : List (List Key × Dt))
abbrev Mem := List MO
abbrev Env := List (Option Dt)
/-- at a: an exception of the class cls, its dict d -/
def exK (cls : Value) (d : Option Addr) (a : Addr) : HO := .ext fun h => ∃ (oe : Obj) (vs : Array Value), h.get? a = some oe ∧ Zc cls d oe ∧ oe.data = .fields vs
/-- Γ: where the classes stand; α: where the store's things stand; B: what is known and stays; F: what stands aside meanwhile -/
structure Gm where
  K : PySem.W.Frag
  c : Nat → Addr
structure Wd where
  Γ : Gm
  α : List Addr
  B : Hp
  F : Hp
structure Le (ω ω' : Wd) : Prop where
  g : ω'.Γ = ω.Γ
  a : ∀ (i : Nat) (a : Addr), ω.α[i]? = some a → ω'.α[i]? = some a
  b : Same ω.B ω'.B
  f : ω'.F = ω.F
structure Le0 (ω ω' : Wd) : Prop where
  g : ω'.Γ = ω.Γ
  a : ∀ (i : Nat) (a : Addr), ω.α[i]? = some a → ω'.α[i]? = some a
  b : Same ω.B ω'.B
theorem Le.to0 {ω ω' : Wd} (l : Le ω ω') : Le0 ω ω' := ⟨l.g, l.a, l.b⟩
theorem Le0.trans {a b c : Wd} (x : Le0 a b) (y : Le0 b c) : Le0 a c := ⟨y.g.trans x.g, fun i p h => y.a i p (x.a i p h), x.b.trans y.b⟩
theorem Le.refl (ω : Wd) : Le ω ω := ⟨rfl, fun _ _ h => h, Same.refl _, rfl⟩
theorem Le.trans {a b c : Wd} (x : Le a b) (y : Le b c) : Le a c := ⟨y.g.trans x.g, fun i p h => y.a i p (x.a i p h), x.b.trans y.b, y.f.trans x.f⟩
/-- a list of the written part -/
def KLst (K : PySem.W.Frag) (a : Addr) (xs : List V) : Prop := ∃ (o : Obj) (its : Array Value) (n : Nat), K.lookup a = some o ∧ o.cls = .type "list" ∧ o.dict = none ∧ o.data = .seq its n ∧ its.size ≤ sizeLine ∧ Vals xs its.toList
/-- a tuple of the written part -/
def KTup (K : PySem.W.Frag) (a : Addr) (xs : List V) : Prop := ∃ (o : Obj) (its : Array Value) (n : Nat), K.lookup a = some o ∧ o.cls = .type "tuple" ∧ o.data = .seq its n ∧ its.size ≤ sizeLine ∧ Vals xs its.toList
mutual
inductive Rp (ω : Wd) : V → Dt → Prop
  | non : Rp ω .non .non
  | bl (b : Bool) : Rp ω (.bl b) (.bl b)
  | int (i : Int) : Rp ω (.int i) (.int i)
  | str (x : Str) : Rp ω (.str x) (.str x)
  | lst {a : Addr} {xs : List V} {ds : List Dt} : ω.B a = some (.lst xs) → RpL ω xs ds → Rp ω (.ref a) (.lst ds)
  | tup {a : Addr} {xs : List V} {ds : List Dt} : ω.B a = some (.tup xs) → RpL ω xs ds → Rp ω (.ref a) (.tup ds)
  | scr {a : Addr} {xs : List V} {ds : List Dt} : ((∃ o, ω.B a = some (.lst xs) ∨ ω.B a = some (.frz o (.lst xs))) ∨ KLst ω.Γ.K a xs) → RpL ω xs ds → Rp ω (.ref a) (.scr ds)
  | ptr {i : Nat} {a : Addr} : ω.α[i]? = some a → Rp ω (.ref a) (.ptr i)
  | ktp {a : Addr} {xs : List V} {ds : List Dt} : KTup ω.Γ.K a xs → RpL ω xs ds → Rp ω (.ref a) (.ktp ds)
  | ty (n : String) : Rp ω (.ty n) (.ty n)
  | cls (n : Nat) : Rp ω (.ref (ω.Γ.c n)) (.cls n)
  | exn {a : Addr} {n : Nat} : ω.B a = some (exK (.ref (ω.Γ.c n)) none a) → Rp ω (.ref a) (.exc n [] [])
  | exd {a dd : Addr} {n : Nat} {ns : List Str} {vs : List V} {ds : List Dt} : ω.B a = some (exK (.ref (ω.Γ.c n)) (some dd) a) → ω.B dd = some (.xd (ns.zip vs)) → RpL ω vs ds → Rp ω (.ref a) (.exc n ns ds)
inductive RpL (ω : Wd) : List V → List Dt → Prop
  | nil : RpL ω [] []
  | cons {v : V} {vs : List V} {d : Dt} {ds : List Dt} : Rp ω v d → RpL ω vs ds → RpL ω (v :: vs) (d :: ds)
end
inductive RpK {κ : Type} (ω : Wd) : List (κ × V) → List (κ × Dt) → Prop
  | nil : RpK ω [] []
  | cons {k : κ} {v : V} {d : Dt} {vs : List (κ × V)} {ds : List (κ × Dt)} : Rp ω v d → RpK ω vs ds → RpK ω ((k, v) :: vs) ((k, d) :: ds)
mutual
theorem Rp.mono0 {ω ω' : Wd} (e : Le0 ω ω') : ∀ {v : V} {d : Dt}, Rp ω v d → Rp ω' v d
  | _, _, .non => .non
  | _, _, .bl b => .bl b
  | _, _, .int i => .int i
  | _, _, .str x => .str x
  | _, _, .lst h r => .lst (e.b _ _ h) (RpL.mono0 e r)
  | _, _, .tup h r => .tup (e.b _ _ h) (RpL.mono0 e r)
  | _, _, .scr h r => .scr (h.elim (fun ⟨o, z⟩ => .inl ⟨o, z.elim (fun z => .inl (e.b _ _ z)) fun z => .inr (e.b _ _ z)⟩) fun z => .inr (by rw [e.g]; exact z)) (RpL.mono0 e r)
  | _, _, .ptr h => .ptr (e.a _ _ h)
  | _, _, .ktp h r => .ktp (by rw [e.g]; exact h) (RpL.mono0 e r)
  | _, _, .ty n => .ty n
  | _, _, .cls n => by rw [← e.g]; exact .cls n
  | _, _, .exn h => .exn (by rw [e.g]; exact e.b _ _ h)
  | _, _, .exd h1 h2 r => .exd (by rw [e.g]; exact e.b _ _ h1) (e.b _ _ h2) (RpL.mono0 e r)
theorem RpL.mono0 {ω ω' : Wd} (e : Le0 ω ω') : ∀ {v : List V} {d : List Dt}, RpL ω v d → RpL ω' v d
  | _, _, .nil => .nil
  | _, _, .cons h r => .cons (Rp.mono0 e h) (RpL.mono0 e r)
end
theorem RpK.mono0 {κ : Type} {ω ω' : Wd} (e : Le0 ω ω') {vs : List (κ × V)} {ds : List (κ × Dt)} (r : RpK ω vs ds) : RpK ω' vs ds := by
  induction r with
  | nil => exact .nil
  | cons a _ ih => exact .cons (a.mono0 e) ih
theorem Rp.mono {ω ω' : Wd} (e : Le ω ω') {v : V} {d : Dt} (r : Rp ω v d) : Rp ω' v d := r.mono0 e.to0
theorem RpL.mono {ω ω' : Wd} (e : Le ω ω') {v : List V} {d : List Dt} (r : RpL ω v d) : RpL ω' v d := r.mono0 e.to0
theorem RpK.mono {κ : Type} {ω ω' : Wd} (e : Le ω ω') {vs : List (κ × V)} {ds : List (κ × Dt)} (r : RpK ω vs ds) : RpK ω' vs ds := r.mono0 e.to0
section
variable {ω : Wd} {vs ws : List V} {ds es : List Dt} {v : V} {d : Dt}
theorem RpL.len : ∀ {vs : List V} {ds : List Dt}, RpL ω vs ds → vs.length = ds.length
  | _, _, .nil => rfl
  | _, _, .cons _ r => congrArg Nat.succ r.len
theorem RpL.app : ∀ {vs ws : List V} {ds es : List Dt}, RpL ω vs ds → RpL ω ws es → RpL ω (vs ++ ws) (ds ++ es)
  | _, _, _, _, .nil, h => h
  | _, _, _, _, .cons a r, h => .cons a (r.app h)
theorem RpL.get : ∀ {vs : List V} {ds : List Dt} {i : Nat} {d : Dt}, RpL ω vs ds → ds[i]? = some d → ∃ v, vs[i]? = some v ∧ Rp ω v d
  | _, _, _, _, .nil, h => by simp at h
  | _, _, 0, _, .cons a r, h => by
    simp at h
    subst h
    exact ⟨_, rfl, a⟩
  | _, _, i + 1, _, .cons a r, h => by
    rw [List.getElem?_cons_succ] at h
    obtain ⟨v, e, q⟩ := r.get h
    exact ⟨v, by simpa using e, q⟩
theorem RpL.take : ∀ {vs : List V} {ds : List Dt} (n : Nat), RpL ω vs ds → RpL ω (vs.take n) (ds.take n)
  | _, _, 0, _ => .nil
  | _, _, _ + 1, .nil => .nil
  | _, _, n + 1, .cons a r => .cons a (r.take n)
theorem RpL.drop : ∀ {vs : List V} {ds : List Dt} (n : Nat), RpL ω vs ds → RpL ω (vs.drop n) (ds.drop n)
  | _, _, 0, h => h
  | _, _, _ + 1, .nil => .nil
  | _, _, n + 1, .cons a r => r.drop n
theorem RpL.set : ∀ {vs : List V} {ds : List Dt} {v : V} {d : Dt} (n : Nat), RpL ω vs ds → Rp ω v d → RpL ω (vs.set n v) (ds.set n d)
  | _, _, _, _, _, .nil, _ => .nil
  | _, _, _, _, 0, .cons a r, h => .cons h r
  | _, _, _, _, n + 1, .cons a r, h => .cons a (r.set n h)
theorem RpL.rep {v : V} {d : Dt} (h : Rp ω v d) : ∀ n, RpL ω (List.replicate n v) (List.replicate n d)
  | 0 => .nil
  | n + 1 => .cons h (RpL.rep h n)
theorem RpL.strs : ∀ (ys : List Str), RpL ω (ys.map V.str) (ys.map Dt.str)
  | [] => .nil
  | y :: ys => .cons (.str y) (RpL.strs ys)
theorem RpL.of_strs : ∀ {ys : List Str} {vs : List V}, RpL ω vs (ys.map Dt.str) → vs = ys.map V.str
  | [], _, h => by cases h; rfl
  | y :: ys, _, h => by
    cases h with
    | cons a r =>
      cases a
      rw [RpL.of_strs r]
      rfl
theorem RpL.of_ints : ∀ {ys : List Int} {vs : List V}, RpL ω vs (ys.map Dt.int) → vs = ys.map V.int
  | [], _, h => by cases h; rfl
  | y :: ys, _, h => by
    cases h with
    | cons a r =>
      cases a
      rw [RpL.of_ints r]
      rfl
theorem RpL.of_bls : ∀ {ys : List Bool} {vs : List V}, RpL ω vs (ys.map Dt.bl) → vs = ys.map V.bl
  | [], _, h => by cases h; rfl
  | y :: ys, _, h => by
    cases h with
    | cons a r =>
      cases a
      rw [RpL.of_bls r]
      rfl
theorem RpL.one {d : Dt} {vs : List V} (h : RpL ω vs [d]) : ∃ v, vs = [v] ∧ Rp ω v d := by
  cases h with
  | cons a r =>
    cases r
    exact ⟨_, rfl, a⟩
theorem RpL.two {d e : Dt} {vs : List V} (h : RpL ω vs [d, e]) : ∃ v w, vs = [v, w] ∧ Rp ω v d ∧ Rp ω w e := by
  cases h with
  | cons a r =>
    cases r with
    | cons b r =>
      cases r
      exact ⟨_, _, rfl, a, b⟩
end
/-! ### heaps -/
theorem same_upd {H : Hp} {p : Addr} {o : HO} (h : H p = none) : Same H (upd H p o) := fun b x e => by
  rw [upd_ne (ne_of_none e h)]
  exact e
theorem same_upd2 {B H : Hp} {p : Addr} {o : HO} (e : Same B H) : Same (upd B p o) (upd H p o) := fun b x h => by
  by_cases hb : b = p
  · subst hb
    rw [upd_same] at h ⊢
    exact h
  · rw [upd_ne hb] at h ⊢
    exact e b x h
theorem same_hid {B H : Hp} {p : Addr} {o : HO} (e : Same B H) (h : B p = none) : Same B (upd H p o) := fun b x q => by
  rw [upd_ne (ne_of_none q h)]
  exact e b x q
/-- what stands at a, as the store tells -/
def MOR (ω : Wd) (H : Hp) (a : Addr) : MO → Prop
  | .lst ds => ω.B a = none ∧ ∃ xs, H a = some (.lst xs) ∧ RpL ω xs ds
  | .dK kvs => ω.B a = none ∧ ∃ vs, H a = some (.dK vs) ∧ RpK ω vs kvs
  | .dT kvs => ω.B a = none ∧ ∃ vs, H a = some (.dT vs) ∧ RpK ω vs kvs
  | .ins n fs => ω.B a = none ∧ ∃ dx vs, H a = some (.ins (ω.Γ.c n) dx vs) ∧ RpK ω vs fs
  | .gone => ∃ o, H a = some o
  | .lk kvs => ∃ o vs, ω.B a = some (.frz o (.dK vs)) ∧ H a = some (.frz o (.dK vs)) ∧ RpK ω vs kvs
  | .lkT kvs => ∃ o vs, ω.B a = some (.frz o (.dT vs)) ∧ H a = some (.frz o (.dT vs)) ∧ RpK ω vs kvs
structure WR (ω : Wd) (μ : Mem) (H : Hp) : Prop where
  x : Same ω.B H
  len : ω.α.length = μ.length
  inj : ∀ (i j : Nat) (a : Addr), ω.α[i]? = some a → ω.α[j]? = some a → i = j
  at_ : ∀ (i : Nat) (a : Addr) (o : MO), ω.α[i]? = some a → μ[i]? = some o → MOR ω H a o
  fr : Same ω.F H
  fa : ∀ (i : Nat) (a : Addr), ω.α[i]? = some a → ω.F a = none
  fb : ∀ (a : Addr) (o : HO), ω.F a = some o → ω.B a = none ∧ ∃ xs, o = .lst xs
section
variable {ω ω' : Wd} {μ : Mem} {H H' : Hp} {a p : Addr} {o : MO} {u : HO} {i : Nat}
theorem MOR.there (h : MOR ω H a o) : ∃ u, H a = some u := by
  cases o with
  | lst ds => obtain ⟨_, xs, e, _⟩ := h; exact ⟨_, e⟩
  | dK ds => obtain ⟨_, xs, e, _⟩ := h; exact ⟨_, e⟩
  | dT ds => obtain ⟨_, xs, e, _⟩ := h; exact ⟨_, e⟩
  | ins n ds => obtain ⟨_, _, xs, e, _⟩ := h; exact ⟨_, e⟩
  | gone => exact h
  | lk ds => obtain ⟨_, _, _, e, _⟩ := h; exact ⟨_, e⟩
  | lkT ds => obtain ⟨_, _, _, e, _⟩ := h; exact ⟨_, e⟩
theorem MOR.move0 (h : MOR ω H a o) (l : Le0 ω ω') (e : H' a = H a) (b : ω.B a = none → ω'.B a = none) : MOR ω' H' a o := by
  cases o with
  | lst ds => obtain ⟨n, xs, q, r⟩ := h; exact ⟨b n, xs, e.trans q, r.mono0 l⟩
  | dK ds => obtain ⟨n, xs, q, r⟩ := h; exact ⟨b n, xs, e.trans q, r.mono0 l⟩
  | dT ds => obtain ⟨n, xs, q, r⟩ := h; exact ⟨b n, xs, e.trans q, r.mono0 l⟩
  | ins n ds => obtain ⟨n', dx, xs, q, r⟩ := h; exact ⟨b n', dx, xs, by rw [l.g]; exact e.trans q, r.mono0 l⟩
  | gone => obtain ⟨u, q⟩ := h; exact ⟨u, e.trans q⟩
  | lk ds => obtain ⟨o, vs, b1, q, r⟩ := h; exact ⟨o, vs, l.b _ _ b1, e.trans q, r.mono0 l⟩
  | lkT ds => obtain ⟨o, vs, b1, q, r⟩ := h; exact ⟨o, vs, l.b _ _ b1, e.trans q, r.mono0 l⟩
theorem MOR.move (h : MOR ω H a o) (l : Le ω ω') (e : H' a = H a) (b : ω.B a = none → ω'.B a = none) : MOR ω' H' a o := h.move0 l.to0 e b
theorem WR.known (w : WR ω μ H) (h : ω.α[i]? = some a) : ∃ o, μ[i]? = some o := by
  have hi := (List.getElem?_eq_some_iff.mp h).1
  rw [w.len] at hi
  exact ⟨_, List.getElem?_eq_getElem hi⟩
theorem WR.fresh (w : WR ω μ H) (n : H p = none) (h : ω.α[i]? = some a) : a ≠ p := fun z => by
  obtain ⟨o, e⟩ := w.known h
  obtain ⟨u, q⟩ := (w.at_ i a o h e).there
  rw [z, n] at q
  cases q
/-- less stands aside -/
theorem WR.reF {F' : Hp} (w : WR ω μ H) (s : Same F' ω.F) : WR { ω with F := F' } μ H :=
  ⟨w.x, w.len, w.inj, fun i a o h e => (w.at_ i a o h e).move0 ⟨rfl, fun _ _ h => h, Same.refl _⟩ rfl fun z => z, s.trans w.fr, fun i a h => s.free (w.fa i a h), fun a o e => w.fb a o (s _ _ e)⟩
/-- a thing that is known from then on -/
theorem WR.newB (w : WR ω μ H) (n : H p = none) : Le ω { ω with B := upd ω.B p u } ∧ WR { ω with B := upd ω.B p u } μ (upd H p u) := by
  have l : Le ω { ω with B := upd ω.B p u } := ⟨rfl, fun _ _ h => h, same_upd (w.x.free n), rfl⟩
  refine ⟨l, ⟨same_upd2 w.x, w.len, w.inj, fun i a o h e => ?_, same_hid w.fr (w.fr.free n), w.fa, fun a o e => ⟨(upd_ne (ne_of_none e (w.fr.free n))).trans (w.fb a o e).1, (w.fb a o e).2⟩⟩⟩
  have hp := w.fresh n h
  exact (w.at_ i a o h e).move l (upd_ne hp) fun z => (upd_ne hp).trans z
/-- a new thing that nobody tells of -/
theorem WR.newH (w : WR ω μ H) (n : H p = none) : WR ω μ (upd H p u) :=
  ⟨same_hid w.x (w.x.free n), w.len, w.inj, fun i a o h e => (w.at_ i a o h e).move (Le.refl ω) (upd_ne (w.fresh n h)) fun z => z, same_hid w.fr (w.fr.free n), w.fa, w.fb⟩
/-- a new thing of the store -/
theorem WR.newM (w : WR ω μ H) (n : H p = none) (h : MOR { ω with α := ω.α ++ [p] } (upd H p u) p o) : Le ω { ω with α := ω.α ++ [p] } ∧ WR { ω with α := ω.α ++ [p] } (μ ++ [o]) (upd H p u) ∧ (ω.α ++ [p])[μ.length]? = some p := by
  have l : Le ω { ω with α := ω.α ++ [p] } := ⟨rfl, fun i a h => by
    show (ω.α ++ [p])[i]? = some a
    rw [List.getElem?_append_left (List.getElem?_eq_some_iff.mp h).1]
    exact h, Same.refl _, rfl⟩
  have at_last : ∀ i a, (ω.α ++ [p])[i]? = some a → ω.α[i]? = some a ∨ (i = ω.α.length ∧ a = p) := fun i a q => by
    by_cases hi : i < ω.α.length
    · rw [List.getElem?_append_left hi] at q
      exact .inl q
    · have h2 := (List.getElem?_eq_some_iff.mp q).1
      rw [List.length_append, List.length_singleton] at h2
      have e : i = ω.α.length := by omega
      subst e
      rw [List.getElem?_append_right (Nat.le_refl _), Nat.sub_self] at q
      exact .inr ⟨rfl, by simpa using q.symm⟩
  refine ⟨l, ⟨same_hid w.x (w.x.free n), by simp [w.len], fun i j a h1 h2 => ?_, fun i a o' h1 e => ?_, same_hid w.fr (w.fr.free n), fun i a h1 => (at_last i a h1).elim (w.fa i a) fun z => by rw [z.2]; exact w.fr.free n, w.fb⟩, ?_⟩
  · rcases at_last i a h1 with q1 | ⟨q1, e1⟩
    · rcases at_last j a h2 with q2 | ⟨q2, e2⟩
      · exact w.inj i j a q1 q2
      · exact absurd e2 (w.fresh n q1)
    · rcases at_last j a h2 with q2 | ⟨q2, e2⟩
      · exact absurd e1 (w.fresh n q2)
      · rw [q1, q2]
  · rcases at_last i a h1 with q1 | ⟨q1, e1⟩
    · have hi : i < μ.length := by
        rw [← w.len]
        exact (List.getElem?_eq_some_iff.mp q1).1
      rw [List.getElem?_append_left hi] at e
      exact (w.at_ i a o' q1 e).move l (upd_ne (w.fresh n q1)) fun z => z
    · subst e1
      rw [q1, w.len, List.getElem?_append_right (Nat.le_refl _), Nat.sub_self] at e
      cases e
      exact h
  · rw [← w.len, List.getElem?_append_right (Nat.le_refl _), Nat.sub_self]
    rfl
/-- a thing of the store is changed -/
theorem WR.put (w : WR ω μ H) (h : ω.α[i]? = some a) (hb : ω.B a = none) (n : MOR ω (upd H a u) a o) : WR ω (μ.set i o) (upd H a u) := by
  refine ⟨same_hid w.x hb, by rw [List.length_set]; exact w.len, w.inj, fun j b o' h1 e => ?_, same_hid w.fr (w.fa i a h), w.fa, w.fb⟩
  by_cases hj : j = i
  · subst hj
    rw [h] at h1
    cases h1
    have hi : j < μ.length := by
      rw [← w.len]
      exact (List.getElem?_eq_some_iff.mp h).1
    rw [List.getElem?_set_self hi] at e
    cases e
    exact n
  · rw [List.getElem?_set_ne (Ne.symm hj)] at e
    have hne : b ≠ a := fun z => hj (w.inj j i b h1 (by rw [z]; exact h))
    exact (w.at_ j b o' h1 e).move (Le.refl ω) (upd_ne hne) fun z => z
/-- a list of the store is known from then on -/
theorem WR.freeze {ds : List Dt} (w : WR ω μ H) (h : ω.α[i]? = some a) (e : μ[i]? = some (.lst ds)) : ∃ ω', Le ω ω' ∧ WR ω' (μ.set i .gone) H ∧ Rp ω' (.ref a) (.lst ds) := by
  obtain ⟨hb, xs, hx, r⟩ := w.at_ i a _ h e
  have l : Le ω { ω with B := upd ω.B a (.lst xs) } := ⟨rfl, fun _ _ h => h, same_upd hb, rfl⟩
  refine ⟨{ ω with B := upd ω.B a (.lst xs) }, l, ⟨fun b u q => ?_, by rw [List.length_set]; exact w.len, w.inj, fun j b o' h1 e1 => ?_, w.fr, w.fa, fun b o' e1 => ⟨(upd_ne (ne_of_none e1 (w.fa i a h))).trans (w.fb b o' e1).1, (w.fb b o' e1).2⟩⟩, .lst upd_same (r.mono l)⟩
  · by_cases hba : b = a
    · subst hba
      have q : upd ω.B b (.lst xs) b = some u := q
      rw [upd_same] at q
      cases q
      exact hx
    · have q : upd ω.B a (.lst xs) b = some u := q
      rw [upd_ne hba] at q
      exact w.x b u q
  · by_cases hj : j = i
    · subst hj
      have h1 : ω.α[j]? = some b := h1
      rw [h] at h1
      cases h1
      have hi : j < μ.length := by
        rw [← w.len]
        exact (List.getElem?_eq_some_iff.mp h).1
      rw [List.getElem?_set_self hi] at e1
      cases e1
      exact ⟨_, hx⟩
    · rw [List.getElem?_set_ne (Ne.symm hj)] at e1
      have hne : b ≠ a := fun z => hj (w.inj j i b h1 (by rw [z]; exact h))
      exact (w.at_ j b o' h1 e1).move l rfl fun z => (upd_ne hne).trans z
end
/-! ### a frame's names -/
structure EnvR (ω : Wd) (σ : L2.St) (δ : Env) : Prop where
  len : σ.length = δ.length
  at_ : ∀ (i : Nat) (d : Dt), δ[i]? = some (some d) → ∃ v, σ[i]? = some (some v) ∧ Rp ω v d
section
variable {ω ω' : Wd} {σ : L2.St} {δ : Env} {v : V} {d : Dt}
theorem EnvR.mono0 (h : EnvR ω σ δ) (l : Le0 ω ω') : EnvR ω' σ δ := ⟨h.len, fun i d e => let ⟨v, q, r⟩ := h.at_ i d e; ⟨v, q, r.mono0 l⟩⟩
theorem EnvR.mono (h : EnvR ω σ δ) (l : Le ω ω') : EnvR ω' σ δ := h.mono0 l.to0
theorem EnvR.set (h : EnvR ω σ δ) (i : Nat) (r : Rp ω v d) : EnvR ω (σ.set i (some v)) (δ.set i (some d)) := ⟨by rw [List.length_set, List.length_set]; exact h.len, fun j e q => by
  by_cases hj : i = j
  · subst hj
    have hi : i < δ.length := by
      have := (List.getElem?_eq_some_iff.mp q).1
      rwa [List.length_set] at this
    rw [List.getElem?_set_self hi] at q
    cases q
    exact ⟨v, List.getElem?_set_self (by rw [h.len]; exact hi), r⟩
  · rw [List.getElem?_set_ne hj] at q
    obtain ⟨w, q2, r2⟩ := h.at_ j e q
    exact ⟨w, by rw [List.getElem?_set_ne hj]; exact q2, r2⟩⟩
theorem EnvR.unset (h : EnvR ω σ δ) (i : Nat) : EnvR ω (σ.set i none) (δ.set i none) := ⟨by rw [List.length_set, List.length_set]; exact h.len, fun j e q => by
  by_cases hj : i = j
  · subst hj
    have hi : i < δ.length := by
      have := (List.getElem?_eq_some_iff.mp q).1
      rwa [List.length_set] at this
    rw [List.getElem?_set_self hi] at q
    cases q
  · rw [List.getElem?_set_ne hj] at q
    obtain ⟨w, q2, r2⟩ := h.at_ j e q
    exact ⟨w, by rw [List.getElem?_set_ne hj]; exact q2, r2⟩⟩
def wipeD (δ : Env) : List Nat → Env
  | [] => δ
  | v :: vs => (wipeD δ vs).set v none
theorem EnvR.wipe (h : EnvR ω σ δ) : ∀ vs : List Nat, EnvR ω (wipe σ vs) (wipeD δ vs)
  | [] => h
  | v :: vs => (h.wipe vs).unset v
theorem EnvR.start {vs : List V} {ds : List Dt} (r : RpL ω vs ds) (N : List Str) : EnvR ω (L2.start N vs) (ds.map some ++ List.replicate (N.length - ds.length) none) := by
  refine ⟨?_, fun i d e => ?_⟩
  · unfold L2.start
    rw [List.length_append, List.length_append, List.length_map, List.length_map, List.length_replicate, List.length_replicate, r.len]
  · unfold L2.start
    by_cases hi : i < ds.length
    · rw [List.getElem?_append_left (by rw [List.length_map]; exact hi), List.getElem?_map] at e
      cases q : ds[i]? with
      | none =>
        rw [q] at e
        cases e
      | some d' =>
        rw [q] at e
        cases e
        obtain ⟨v, hv, rv⟩ := r.get q
        exact ⟨v, by rw [List.getElem?_append_left (by rw [List.length_map, r.len]; exact hi), List.getElem?_map, hv]; rfl, rv⟩
    · rw [List.getElem?_append_right (by rw [List.length_map]; omega), List.getElem?_replicate] at e
      split at e <;> cases e
end
/-! ### outcomes -/
inductive R (β : Type) where
  | ok (a : β) (μ : Mem) | ex (n : Nat) (ns : List Str) (es : List Dt) (μ : Mem) | no
def R.bind {β γ : Type} (r : R β) (f : β → Mem → R γ) : R γ := match r with
  | .ok a μ => f a μ
  | .ex n ns es μ => .ex n ns es μ
  | .no => .no
inductive O where
  | nx (δ : Env) (μ : Mem) | rt (d : Dt) (μ : Mem) | bk (δ : Env) (μ : Mem) | ct (δ : Env) (μ : Mem) | ex (n : Nat) (ns : List Str) (es : List Dt) (δ : Env) (μ : Mem) | no
def R.thn {β : Type} (r : R β) (δ : Env) (f : β → Mem → O) : O := match r with
  | .ok a μ => f a μ
  | .ex n ns es μ => .ex n ns es δ μ
  | .no => .no
abbrev MX := Env → Mem → R Dt
abbrev MA := Env → Mem → R (List Dt)
abbrev MT := Env → Mem → R Bool
abbrev MS := Env → Mem → O
/-- the dict of an error -/
def RX (ω : Wd) (d : Option Addr) (ns : List Str) (es : List Dt) : Prop := (d = none ∧ ns = [] ∧ es = []) ∨ ∃ (dd : Addr) (vs : List V), d = some dd ∧ ω.B dd = some (.xd (ns.zip vs)) ∧ RpL ω vs es
section
variable {β γ δ' : Type}
def GoE (rel : Wd → γ → β → Prop) (W : WX) (ω : Wd) (σ : L2.St) (r : R β) (Q : γ → Hp → Prop) : Prop := match r with
  | .ok d μ' => ∀ v ω' H', Le ω ω' → WR ω' μ' H' → rel ω' v d → Q v H'
  | .ex n ns es μ' => ∀ dd ω' H', Le ω ω' → WR ω' μ' H' → RX ω' dd ns es → W (.ref (ω.Γ.c n)) dd σ H'
  | .no => False
def GoS (W : WX) (ω : Wd) (o : O) (D : Ends) : Prop := match o with
  | .nx δ' μ' => ∀ σ' ω' H', Le ω ω' → WR ω' μ' H' → EnvR ω' σ' δ' → D.nx σ' H'
  | .rt d μ' => ∀ v ω' H', Le ω ω' → WR ω' μ' H' → Rp ω' v d → D.rt v H'
  | .bk δ' μ' => ∀ σ' ω' H', Le ω ω' → WR ω' μ' H' → EnvR ω' σ' δ' → D.bk σ' H'
  | .ct δ' μ' => ∀ σ' ω' H', Le ω ω' → WR ω' μ' H' → EnvR ω' σ' δ' → D.ct σ' H'
  | .ex n ns es δ' μ' => ∀ dd σ' ω' H', Le ω ω' → WR ω' μ' H' → EnvR ω' σ' δ' → RX ω' dd ns es → W (.ref (ω.Γ.c n)) dd σ' H'
  | .no => False
variable {rel : Wd → γ → β → Prop} {W : WX} {ω ω1 : Wd} {σ : L2.St} {r : R β} {Q : γ → Hp → Prop} {o : O} {D : Ends}
theorem GoE.mono (h : GoE rel W ω σ r Q) (l : Le ω ω1) : GoE rel W ω1 σ r Q := by
  cases r with
  | ok d μ => exact fun v ω' H' l' => h v ω' H' (l.trans l')
  | ex n ns es μ => exact fun dd ω' H' l' w x => l.g ▸ h dd ω' H' (l.trans l') w x
  | no => exact h
theorem GoS.mono (h : GoS W ω o D) (l : Le ω ω1) : GoS W ω1 o D := by
  cases o with
  | nx δ' μ' => exact fun σ' ω' H' l' => h σ' ω' H' (l.trans l')
  | rt d μ' => exact fun v ω' H' l' => h v ω' H' (l.trans l')
  | bk δ' μ' => exact fun σ' ω' H' l' => h σ' ω' H' (l.trans l')
  | ct δ' μ' => exact fun σ' ω' H' l' => h σ' ω' H' (l.trans l')
  | ex n ns es δ' μ' => exact fun dd σ' ω' H' l' w e x => l.g ▸ h dd σ' ω' H' (l.trans l') w e x
  | no => exact h
/-- one part first, then the rest -/
theorem GoE.split {ρ ζ : Type} {rel2 : Wd → ρ → ζ → Prop} {f : β → Mem → R ζ} {Q' : ρ → Hp → Prop} (h : GoE rel2 W ω σ (r.bind f) Q') (k : ∀ b μ1 v ω1 H1, Le ω ω1 → WR ω1 μ1 H1 → rel ω1 v b → GoE rel2 W ω1 σ (f b μ1) Q' → Q v H1) : GoE rel W ω σ r Q := by
  cases r with
  | ok d μ => exact fun v ω' H' l w q => k d μ v ω' H' l w q (GoE.mono h l)
  | ex n ns es μ => exact h
  | no => exact h
theorem GoE.splitS {f : β → Mem → O} {δ : Env} (he : EnvR ω σ δ) (h : GoS W ω (r.thn δ f) D) (k : ∀ b μ1 v ω1 H1, Le ω ω1 → WR ω1 μ1 H1 → rel ω1 v b → GoS W ω1 (f b μ1) D → Q v H1) : GoE rel W ω σ r Q := by
  cases r with
  | ok d μ => exact fun v ω' H' l w q => k d μ v ω' H' l w q (GoS.mono h l)
  | ex n ns es μ => exact fun dd ω' H' l w q => h dd σ ω' H' l w (he.mono l) q
  | no => exact h
/-- a reading that follows a function -/
def rd (rel : Wd → γ → β → Prop) (Γ : Gm) (W : WX) (m : Env → Mem → R β) : L2.St → Hp → (γ → Hp → Prop) → Prop := fun σ H Q => ∃ ω δ μ, ω.Γ = Γ ∧ EnvR ω σ δ ∧ WR ω μ H ∧ GoE rel W ω σ (m δ μ) Q
end
abbrev rdE (Γ : Gm) (W : WX) (m : MX) : TE := rd Rp Γ W m
abbrev rdA (Γ : Gm) (W : WX) (m : MA) : TA := rd RpL Γ W m
abbrev rdT (Γ : Gm) (W : WX) (m : MT) : TT := rd (fun _ (k b : Bool) => k = b) Γ W m
def rdS (Γ : Gm) (W : WX) (m : MS) : TS := fun D σ H => ∃ ω δ μ, ω.Γ = Γ ∧ EnvR ω σ δ ∧ WR ω μ H ∧ GoS W ω (m δ μ) D
theorem PEw {X : Cx} {e : Expr} {t t' : TE} (h : PE X e t) (k : ∀ σ H Q, t' σ H Q → t σ H Q) : PE X e t' := ⟨fun pins s σ H Q I q => h.run pins s σ H Q I (k σ H Q q)⟩
theorem PTw {X : Cx} {e : Expr} {t t' : TT} (h : PT X e t) (k : ∀ σ H Q, t' σ H Q → t σ H Q) : PT X e t' := ⟨fun pins s σ H Q I q => h.run pins s σ H Q I (k σ H Q q)⟩
theorem PWw {X : Cx} {e : Expr} {t t' : TT} (h : PW X e t) (k : ∀ σ H Q, t' σ H Q → t σ H Q) : PW X e t' := ⟨fun wh pins s σ H Q I q => h.run wh pins s σ H Q I (k σ H Q q)⟩
theorem PAw {X : Cx} {e : List Expr} {t t' : TA} (h : PA X e t) (k : ∀ σ H Q, t' σ H Q → t σ H Q) : PA X e t' := ⟨fun pos pins s σ H Q I q => h.run pos pins s σ H Q I (k σ H Q q)⟩
theorem PKw {X : Cx} {e : List Keyword} {t t' : TA} (h : PK X e t) (k : ∀ σ H Q, t' σ H Q → t σ H Q) : PK X e t' := ⟨fun pos pins s σ H Q I q => h.run pos pins s σ H Q I (k σ H Q q)⟩
theorem PSw {X : Cx} {e : Stmt} {t t' : TS} (h : PS X e t) (k : ∀ D σ H, t' D σ H → t D σ H) : PS X e t' := ⟨fun pins s σ H D I q => h.run pins s σ H D I (k D σ H q)⟩
theorem PSsw {X : Cx} {e : List Stmt} {t t' : TS} (h : PSs X e t) (k : ∀ D σ H, t' D σ H → t D σ H) : PSs X e t' := ⟨fun pins s σ H D I q => h.run pins s σ H D I (k D σ H q)⟩
end DM

set_option linter.all false
set_option maxRecDepth 100000
set_option maxHeartbeats 4000000
/-! DM1: the steps as functions, one for each form of expression and statement; how the readings follow them. -/
namespace DM
open PySem PySem.Spec PyProof.Rows L2
section
variable (Γ : Gm) (W : WX)
def EV (t : TE) (m : MX) : Prop := ∀ σ H Q, rdE Γ W m σ H Q → t σ H Q
def AV (t : TA) (m : MA) : Prop := ∀ σ H Q, rdA Γ W m σ H Q → t σ H Q
def TV (t : TT) (m : MT) : Prop := ∀ σ H Q, rdT Γ W m σ H Q → t σ H Q
def SV (t : TS) (m : MS) : Prop := ∀ D σ H, rdS Γ W m D σ H → t D σ H
def OV (t : TO) (m : Env → Mem → R (Option Int)) : Prop := ∀ σ H Q, rd (fun _ (a b : Option Int) => a = b) Γ W m σ H Q → t σ H Q
end
/-! ### the functions -/
def mV (i : Nat) : MX := fun δ μ => match δ[i]? with
  | some (some d) => .ok d μ
  | _ => .no
def mC (d : Dt) : MX := fun _ μ => .ok d μ
def mOp (f : Dt → Dt → Mem → R Dt) (a b : MX) : MX := fun δ μ => (a δ μ).bind fun x μ1 => (b δ μ1).bind fun y μ2 => f x y μ2
def mUn (f : Dt → Mem → R Dt) (a : MX) : MX := fun δ μ => (a δ μ).bind f
def mNil : MA := fun _ μ => .ok [] μ
def mCons (a : MX) (b : MA) : MA := fun δ μ => (a δ μ).bind fun x μ1 => (b δ μ1).bind fun xs μ2 => .ok (x :: xs) μ2
def mLst (a : MA) : MX := fun δ μ => (a δ μ).bind fun ds μ1 => if ds.length ≤ 1000000 then .ok (.lst ds) μ1 else .no
def mTup (a : MA) : MX := fun δ μ => (a δ μ).bind fun ds μ1 => if ds.length ≤ 1000000 then .ok (.tup ds) μ1 else .no
/-- a new list that may change -/
def mNew (a : MA) : MX := fun δ μ => (a δ μ).bind fun ds μ1 => if ds.length ≤ 1000000 then .ok (.ptr μ1.length) (μ1 ++ [.lst ds]) else .no
def mCB (f : List Dt → Mem → R Dt) (a : MA) : MX := fun δ μ => (a δ μ).bind f
/-- what type a built-in method asks -/
def tyM (T : String) (d : Dt) (μ : Mem) : Bool := match d with
  | .str _ => T == "str"
  | .int _ => T == "int"
  | .lst _ => T == "list"
  | .ptr i => match μ[i]? with
    | some (.lst _) => T == "list"
    | some (.dK _) => T == "dict"
    | some (.dT _) => T == "dict"
    | _ => false
  | _ => false
def mBM (T : String) (f : Dt → List Dt → Mem → R Dt) (o : MX) (a : MA) : MX := fun δ μ => (o δ μ).bind fun x μ1 => if tyM T x μ1 = true then (a δ μ1).bind fun ds μ2 => f x ds μ2 else .no
def mTest (a : MX) : MT := fun δ μ => (a δ μ).bind fun x μ1 => match x with
  | .bl k => .ok k μ1
  | _ => .no
def mAnd (a b : MT) : MT := fun δ μ => (a δ μ).bind fun k μ1 => if k = true then b δ μ1 else .ok false μ1
def mOr (a b : MT) : MT := fun δ μ => (a δ μ).bind fun k μ1 => if k = true then .ok true μ1 else b δ μ1
def mNot (a : MT) : MT := fun δ μ => (a δ μ).bind fun k μ1 => .ok (!k) μ1
def mYes : MT := fun _ μ => .ok true μ
def mB (a : MT) : MX := fun δ μ => (a δ μ).bind fun k μ1 => .ok (.bl k) μ1
def mIf (t : MT) (a b : MX) : MX := fun δ μ => (t δ μ).bind fun k μ1 => if k = true then a δ μ1 else b δ μ1
def mChain (f g : Dt → Dt → Mem → R Dt) (a b c : MX) : MX := fun δ μ => (a δ μ).bind fun x μ1 => (b δ μ1).bind fun y μ2 => (f x y μ2).bind fun z μ3 => match z with
  | .bl k => if k = true then (c δ μ3).bind fun u μ4 => (g y u μ4).bind fun r μ5 => match r with
      | .bl l => .ok (.bl l) μ5
      | _ => .no
    else .ok (.bl false) μ3
  | _ => .no
def mSl (f : Dt → Option Int → Option Int → Mem → R Dt) (a : MX) (lo hi : Env → Mem → R (Option Int)) : MX := fun δ μ => (a δ μ).bind fun x μ1 => (lo δ μ1).bind fun l μ2 => (hi δ μ2).bind fun h μ3 => f x l h μ3
def mNoPart : Env → Mem → R (Option Int) := fun _ μ => .ok none μ
def mPart (a : MX) : Env → Mem → R (Option Int) := fun δ μ => (a δ μ).bind fun x μ1 => match x with
  | .int i => .ok (some i) μ1
  | _ => .no
/-- a list of the store that changes no more -/
def freezeR (d : Dt) (μ : Mem) : R Dt := match d with
  | .ptr i => match μ[i]? with
    | some (.lst ds) => .ok (.lst ds) (μ.set i .gone)
    | _ => .no
  | .lst ds => .ok (.lst ds) μ
  | _ => .no
def mFz (a : MX) : MX := fun δ μ => (a δ μ).bind freezeR
/-! statements -/
def sNext : MS := fun δ μ => .nx δ μ
def O.thn (o : O) (u : MS) : O := match o with
  | .nx δ μ => u δ μ
  | o => o
def sSeq (t u : MS) : MS := fun δ μ => (t δ μ).thn u
def sRet (a : MX) : MS := fun δ μ => (a δ μ).thn δ fun d μ1 => .rt d μ1
def sRetN : MS := fun _ μ => .rt .non μ
def sDrop (a : MX) : MS := fun δ μ => (a δ μ).thn δ fun _ μ1 => .nx δ μ1
def sIf (t : MT) (a b : MS) : MS := fun δ μ => (t δ μ).thn δ fun k μ1 => if k = true then a δ μ1 else b δ μ1
/-- targets -/
abbrev MG := Dt → Env → Mem → Option Env
def gSet (i : Nat) : MG := fun d δ _ => some (δ.set i (some d))
def sAsg (a : MX) (g : MG) : MS := fun δ μ => (a δ μ).thn δ fun d μ1 => match g d δ μ1 with
  | some δ' => .nx δ' μ1
  | none => .no
def sBrk : MS := fun δ μ => .bk δ μ
def sCnt : MS := fun δ μ => .ct δ μ
section
variable {Γ : Gm} {W : WX}
theorem ev_v (i : Nat) : EV Γ W (tVar i) (mV i) := fun σ H Q ⟨ω, δ, μ, hg, he, hw, h⟩ => by
  unfold mV at h
  split at h
  · rename_i d e
    obtain ⟨v, q, r⟩ := he.at_ i d e
    exact ⟨v, q, h v ω H (Le.refl ω) hw r⟩
  · exact h.elim
theorem ev_c {v : V} {d : Dt} (r : ∀ ω : Wd, ω.Γ = Γ → Rp ω v d) : EV Γ W (tC v) (mC d) := fun σ H Q ⟨ω, δ, μ, hg, he, hw, h⟩ => h v ω H (Le.refl ω) hw (r ω hg)
theorem ev_non : EV Γ W (tC .non) (mC .non) := ev_c fun _ _ => .non
theorem ev_bl {b : Bool} : EV Γ W (tC (.bl b)) (mC (.bl b)) := ev_c fun _ _ => .bl b
theorem ev_int {b : Int} : EV Γ W (tC (.int b)) (mC (.int b)) := ev_c fun _ _ => .int b
theorem ev_str {b : Str} : EV Γ W (tC (.str b)) (mC (.str b)) := ev_c fun _ _ => .str b
theorem ev_ty {b : String} : EV Γ W (tC (.ty b)) (mC (.ty b)) := ev_c fun _ _ => .ty b
theorem ev_cls {n : Nat} : EV Γ W (tC (.ref (Γ.c n))) (mC (.cls n)) := ev_c fun ω hg => hg ▸ .cls n
variable {ta tb tc : TE} {ma mb mc : MX} {tr ts : TA} {mr : MA} {tt tu : TT} {nt nu : MT}
/-- operations on values -/
def RO (Γ : Gm) (r : R2) (f : Dt → Dt → Mem → R Dt) : Prop := ∀ (W : WX) ω σ μ H x y a b Q, ω.Γ = Γ → WR ω μ H → Rp ω x a → Rp ω y b → GoE Rp W ω σ (f a b μ) Q → r x y H Q
def RU (r : V → Hp → VK → Prop) (f : Dt → Mem → R Dt) : Prop := ∀ (W : WX) ω σ μ H x a Q, WR ω μ H → Rp ω x a → GoE Rp W ω σ (f a μ) Q → r x H Q
def RC (Γ : Gm) (r : List V → Hp → VK → Prop) (f : List Dt → Mem → R Dt) : Prop := ∀ (W : WX) ω σ μ H xs ds Q, ω.Γ = Γ → WR ω μ H → RpL ω xs ds → GoE Rp W ω σ (f ds μ) Q → r xs H Q
def RM (r : V → List V → Hp → VK → Prop) (f : Dt → List Dt → Mem → R Dt) : Prop := ∀ (W : WX) ω σ μ H x a xs ds Q, WR ω μ H → Rp ω x a → RpL ω xs ds → GoE Rp W ω σ (f a ds μ) Q → r x xs H Q
def RSl (r : V → Option Int → Option Int → Hp → VK → Prop) (f : Dt → Option Int → Option Int → Mem → R Dt) : Prop := ∀ (W : WX) ω σ μ H x a lo hi Q, WR ω μ H → Rp ω x a → GoE Rp W ω σ (f a lo hi μ) Q → r x lo hi H Q
theorem ev_op {r : R2} {f : Dt → Dt → Mem → R Dt} (hr : RO Γ r f) (ha : EV Γ W ta ma) (hb : EV Γ W tb mb) : EV Γ W (tOp r ta tb) (mOp f ma mb) := fun σ H Q ⟨ω, δ, μ, hg, he, hw, h⟩ =>
  ha σ H _ ⟨ω, δ, μ, hg, he, hw, h.split fun a μ1 x ω1 H1 l1 w1 r1 h1 => hb σ H1 _ ⟨ω1, δ, μ1, l1.g.trans hg, he.mono l1, w1, h1.split fun b μ2 y ω2 H2 l2 w2 r2 h2 => hr W ω2 σ μ2 H2 x y a b Q (l2.g.trans (l1.g.trans hg)) w2 (r1.mono l2) r2 h2⟩⟩
theorem ev_un {r : V → Hp → VK → Prop} {f : Dt → Mem → R Dt} (hr : RU r f) (ha : EV Γ W ta ma) : EV Γ W (tUn r ta) (mUn f ma) := fun σ H Q ⟨ω, δ, μ, hg, he, hw, h⟩ =>
  ha σ H _ ⟨ω, δ, μ, hg, he, hw, GoE.split (f := f) h fun a μ1 x ω1 H1 l1 w1 r1 h1 => hr W ω1 σ μ1 H1 x a Q w1 r1 h1⟩
theorem av_nil : AV Γ W tNil mNil := fun σ H Q ⟨ω, δ, μ, hg, he, hw, h⟩ => h [] ω H (Le.refl ω) hw .nil
theorem av_cons (ha : EV Γ W ta ma) (hb : AV Γ W tr mr) : AV Γ W (tCons ta tr) (mCons ma mr) := fun σ H Q ⟨ω, δ, μ, hg, he, hw, h⟩ =>
  ha σ H _ ⟨ω, δ, μ, hg, he, hw, h.split fun a μ1 x ω1 H1 l1 w1 r1 h1 => hb σ H1 _ ⟨ω1, δ, μ1, l1.g.trans hg, he.mono l1, w1, h1.split fun b μ2 y ω2 H2 l2 w2 r2 h2 => h2 (x :: y) ω2 H2 (Le.refl ω2) w2 (.cons (r1.mono l2) r2)⟩⟩
theorem ev_lst (hb : AV Γ W tr mr) : EV Γ W (tLst tr) (mLst mr) := fun σ H Q ⟨ω, δ, μ, hg, he, hw, h⟩ =>
  hb σ H _ ⟨ω, δ, μ, hg, he, hw, h.split fun ds μ1 xs ω1 H1 l1 w1 r1 h1 => by
    split at h1
    · rename_i hl
      refine ⟨by rw [r1.len]; exact Nat.le_trans hl (by decide), fun p hp => ?_⟩
      obtain ⟨l2, w2⟩ := w1.newB (u := .lst xs) hp
      exact h1 _ _ _ l2 w2 (.lst upd_same (r1.mono l2))
    · exact h1.elim⟩
theorem ev_tup (hb : AV Γ W tr mr) : EV Γ W (tTup tr) (mTup mr) := fun σ H Q ⟨ω, δ, μ, hg, he, hw, h⟩ =>
  hb σ H _ ⟨ω, δ, μ, hg, he, hw, h.split fun ds μ1 xs ω1 H1 l1 w1 r1 h1 => by
    split at h1
    · rename_i hl
      refine ⟨by rw [r1.len]; exact Nat.le_trans hl (by decide), fun p hp => ?_⟩
      obtain ⟨l2, w2⟩ := w1.newB (u := .tup xs) hp
      exact h1 _ _ _ l2 w2 (.tup upd_same (r1.mono l2))
    · exact h1.elim⟩
theorem ev_new (hb : AV Γ W tr mr) : EV Γ W (tLst tr) (mNew mr) := fun σ H Q ⟨ω, δ, μ, hg, he, hw, h⟩ =>
  hb σ H _ ⟨ω, δ, μ, hg, he, hw, h.split fun ds μ1 xs ω1 H1 l1 w1 r1 h1 => by
    split at h1
    · rename_i hl
      refine ⟨by rw [r1.len]; exact Nat.le_trans hl (by decide), fun p hp => ?_⟩
      have la : Le ω1 { ω1 with α := ω1.α ++ [p] } := ⟨rfl, fun i a h => by
        show (ω1.α ++ [p])[i]? = some a
        rw [List.getElem?_append_left (List.getElem?_eq_some_iff.mp h).1]
        exact h, Same.refl _, rfl⟩
      obtain ⟨l2, w2, e2⟩ := w1.newM (u := .lst xs) (o := .lst ds) hp ⟨w1.x.free hp, xs, upd_same, r1.mono la⟩
      exact h1 _ _ _ l2 w2 (.ptr e2)
    · exact h1.elim⟩
theorem ev_cb {r : List V → Hp → VK → Prop} {f : List Dt → Mem → R Dt} (hr : RC Γ r f) (hb : AV Γ W tr mr) : EV Γ W (tCB r tr) (mCB f mr) := fun σ H Q ⟨ω, δ, μ, hg, he, hw, h⟩ =>
  hb σ H _ ⟨ω, δ, μ, hg, he, hw, GoE.split (f := f) h fun ds μ1 xs ω1 H1 l1 w1 r1 h1 => hr W ω1 σ μ1 H1 xs ds Q (l1.g.trans hg) w1 r1 h1⟩
theorem tyM_ok {K : PySem.W.Frag} {ω : Wd} {μ : Mem} {H : Hp} {T : String} {x : V} {d : Dt} (w : WR ω μ H) (r : Rp ω x d) (h : tyM T d μ = true) : tyV K T x H := by
  cases r with
  | str x => simpa [tyM, tyV] using h
  | int i => simpa [tyM, tyV] using h
  | lst h1 _ => exact .inl ⟨by simpa [tyM] using h, _, .inl (.inl (w.x _ _ h1))⟩
  | ptr h1 =>
    rename_i i a
    unfold tyM at h
    dsimp only at h
    split at h
    · rename_i ds e
      obtain ⟨_, xs, hx, _⟩ := w.at_ i a _ h1 e
      exact .inl ⟨by simpa using h, xs, .inl (.inl hx)⟩
    · rename_i ds e
      obtain ⟨_, xs, hx, _⟩ := w.at_ i a _ h1 e
      exact .inr (.inr (.inl ⟨by simpa using h, .inl ⟨_, hx⟩⟩))
    · rename_i ds e
      obtain ⟨_, xs, hx, _⟩ := w.at_ i a _ h1 e
      exact .inr (.inr (.inl ⟨by simpa using h, .inr ⟨_, hx⟩⟩))
    · cases h
  | _ => simp [tyM] at h
theorem ev_bm {K : PySem.W.Frag} {T : String} {r : V → List V → Hp → VK → Prop} {f : Dt → List Dt → Mem → R Dt} (hr : RM r f) (ha : EV Γ W ta ma) (hb : AV Γ W tr mr) : EV Γ W (tBM K T r ta tr) (mBM T f ma mr) := fun σ H Q ⟨ω, δ, μ, hg, he, hw, h⟩ =>
  ha σ H _ ⟨ω, δ, μ, hg, he, hw, h.split fun a μ1 x ω1 H1 l1 w1 r1 h1 => by
    split at h1
    · rename_i ht
      exact ⟨tyM_ok w1 r1 ht, hb σ H1 _ ⟨ω1, δ, μ1, l1.g.trans hg, he.mono l1, w1, h1.split fun ds μ2 xs ω2 H2 l2 w2 r2 h2 => hr W ω2 σ μ2 H2 x a xs ds Q w2 (r1.mono l2) r2 h2⟩⟩
    · exact h1.elim⟩
theorem ev_bm0 {K : PySem.W.Frag} {T : String} {r : V → List V → Hp → VK → Prop} {f : Dt → List Dt → Mem → R Dt} (hr : RM r f) (ha : EV Γ W ta ma) : EV Γ W (tBM0 K T r ta) (mBM T f ma mNil) := fun σ H Q ⟨ω, δ, μ, hg, he, hw, h⟩ =>
  ha σ H _ ⟨ω, δ, μ, hg, he, hw, h.split fun a μ1 x ω1 H1 l1 w1 r1 h1 => by
    split at h1
    · rename_i ht
      exact ⟨tyM_ok w1 r1 ht, hr W ω1 σ μ1 H1 x a [] [] Q w1 r1 .nil h1⟩
    · exact h1.elim⟩
theorem tv_test (ha : EV Γ W ta ma) : TV Γ W (tTest ta) (mTest ma) := fun σ H Q ⟨ω, δ, μ, hg, he, hw, h⟩ =>
  ha σ H _ ⟨ω, δ, μ, hg, he, hw, h.split fun a μ1 x ω1 H1 l1 w1 r1 h1 => by
    cases r1 with
    | bl k => exact ⟨k, rfl, h1 k ω1 H1 (Le.refl _) w1 rfl⟩
    | _ => exact h1.elim⟩
theorem tv_B (ha : EV Γ W ta ma) : TV Γ W (tB ta) (mTest ma) := fun σ H Q ⟨ω, δ, μ, hg, he, hw, h⟩ =>
  ha σ H _ ⟨ω, δ, μ, hg, he, hw, h.split fun a μ1 x ω1 H1 l1 w1 r1 h1 => by
    cases r1 with
    | bl k => exact ⟨k, rfl, h1 k ω1 H1 (Le.refl _) w1 rfl⟩
    | _ => exact h1.elim⟩
theorem tv_and (ha : TV Γ W tt nt) (hb : TV Γ W tu nu) : TV Γ W (tAnd tt tu) (mAnd nt nu) := fun σ H Q ⟨ω, δ, μ, hg, he, hw, h⟩ =>
  ha σ H _ ⟨ω, δ, μ, hg, he, hw, h.split fun a μ1 x ω1 H1 l1 w1 r1 h1 => by
    subst r1
    cases x with
    | true => exact hb σ H1 Q ⟨ω1, δ, μ1, l1.g.trans hg, he.mono l1, w1, h1⟩
    | false => exact h1 false ω1 H1 (Le.refl _) w1 rfl⟩
theorem tv_or (ha : TV Γ W tt nt) (hb : TV Γ W tu nu) : TV Γ W (tOr tt tu) (mOr nt nu) := fun σ H Q ⟨ω, δ, μ, hg, he, hw, h⟩ =>
  ha σ H _ ⟨ω, δ, μ, hg, he, hw, h.split fun a μ1 x ω1 H1 l1 w1 r1 h1 => by
    subst r1
    cases x with
    | false => exact hb σ H1 Q ⟨ω1, δ, μ1, l1.g.trans hg, he.mono l1, w1, h1⟩
    | true => exact h1 true ω1 H1 (Le.refl _) w1 rfl⟩
theorem tv_not (ha : TV Γ W tt nt) : TV Γ W (tNot tt) (mNot nt) := fun σ H Q ⟨ω, δ, μ, hg, he, hw, h⟩ =>
  ha σ H _ ⟨ω, δ, μ, hg, he, hw, h.split fun a μ1 x ω1 H1 l1 w1 r1 h1 => by
    subst r1
    exact h1 _ ω1 H1 (Le.refl _) w1 rfl⟩
theorem tv_yes : TV Γ W tYes mYes := fun σ H Q ⟨ω, δ, μ, hg, he, hw, h⟩ => h true ω H (Le.refl _) hw rfl
theorem ev_andV (ha : EV Γ W ta ma) (hb : EV Γ W tb mb) : EV Γ W (tAndV ta tb) (mIf (mTest ma) mb (mC (.bl false))) := fun σ H Q ⟨ω, δ, μ, hg, he, hw, h⟩ =>
  ha σ H _ ⟨ω, δ, μ, hg, he, hw, by
    unfold mIf mTest at h
    cases e : ma δ μ with
    | no => rw [e] at h; exact h
    | ex n ns es μ => rw [e] at h; exact h
    | ok d μ1 =>
      rw [e] at h
      intro x ω1 H1 l1 w1 r1
      cases r1 with
      | bl k =>
        refine ⟨k, rfl, ?_⟩
        cases k with
        | true => exact hb σ H1 Q ⟨ω1, δ, μ1, l1.g.trans hg, he.mono l1, w1, GoE.mono (show GoE Rp W ω σ (mb δ μ1) Q from h) l1⟩
        | false => exact h _ ω1 H1 l1 w1 (.bl false)
      | _ => exact h.elim⟩
theorem ev_orV (ha : EV Γ W ta ma) (hb : EV Γ W tb mb) : EV Γ W (tOrV ta tb) (mIf (mTest ma) (mC (.bl true)) mb) := fun σ H Q ⟨ω, δ, μ, hg, he, hw, h⟩ =>
  ha σ H _ ⟨ω, δ, μ, hg, he, hw, by
    unfold mIf mTest at h
    cases e : ma δ μ with
    | no => rw [e] at h; exact h
    | ex n ns es μ => rw [e] at h; exact h
    | ok d μ1 =>
      rw [e] at h
      intro x ω1 H1 l1 w1 r1
      cases r1 with
      | bl k =>
        refine ⟨k, rfl, ?_⟩
        cases k with
        | false => exact hb σ H1 Q ⟨ω1, δ, μ1, l1.g.trans hg, he.mono l1, w1, GoE.mono (show GoE Rp W ω σ (mb δ μ1) Q from h) l1⟩
        | true => exact h _ ω1 H1 l1 w1 (.bl true)
      | _ => exact h.elim⟩
theorem ev_notV (ha : EV Γ W ta ma) : EV Γ W (tNotV ta) (mB (mNot (mTest ma))) := fun σ H Q ⟨ω, δ, μ, hg, he, hw, h⟩ =>
  ha σ H _ ⟨ω, δ, μ, hg, he, hw, by
    unfold mB mNot mTest at h
    cases e : ma δ μ with
    | no => rw [e] at h; exact h
    | ex n ns es μ => rw [e] at h; exact h
    | ok d μ1 =>
      rw [e] at h
      intro x ω1 H1 l1 w1 r1
      cases r1 with
      | bl k => exact ⟨k, rfl, h _ ω1 H1 l1 w1 (.bl _)⟩
      | _ => exact h.elim⟩
theorem ev_if (ht : TV Γ W tt nt) (ha : EV Γ W ta ma) (hb : EV Γ W tb mb) : EV Γ W (tIf tt ta tb) (mIf nt ma mb) := fun σ H Q ⟨ω, δ, μ, hg, he, hw, h⟩ =>
  ht σ H _ ⟨ω, δ, μ, hg, he, hw, h.split fun a μ1 x ω1 H1 l1 w1 r1 h1 => by
    subst r1
    cases x with
    | true => exact ha σ H1 Q ⟨ω1, δ, μ1, l1.g.trans hg, he.mono l1, w1, h1⟩
    | false => exact hb σ H1 Q ⟨ω1, δ, μ1, l1.g.trans hg, he.mono l1, w1, h1⟩⟩
theorem ev_chain {r r' : R2} {f g : Dt → Dt → Mem → R Dt} (hr : RO Γ r f) (hr' : RO Γ r' g) (ha : EV Γ W ta ma) (hb : EV Γ W tb mb) (hc : EV Γ W tc mc) : EV Γ W (tChain r r' ta tb tc) (mChain f g ma mb mc) := fun σ H Q ⟨ω, δ, μ, hg, he, hw, h⟩ =>
  ha σ H _ ⟨ω, δ, μ, hg, he, hw, h.split fun a μ1 x ω1 H1 l1 w1 r1 h1 => hb σ H1 _ ⟨ω1, δ, μ1, l1.g.trans hg, he.mono l1, w1, h1.split fun b μ2 y ω2 H2 l2 w2 r2 h2 =>
    hr W ω2 σ μ2 H2 x y a b _ (l2.g.trans (l1.g.trans hg)) w2 (r1.mono l2) r2 (h2.split fun z μ3 v ω3 H3 l3 w3 r3 h3 => by
      cases r3 with
      | bl k =>
        refine ⟨k, rfl, ?_⟩
        cases k with
        | true =>
          show tc σ H3 _
          have h3' : GoE Rp W ω3 σ ((mc δ μ3).bind fun u μ4 => (g b u μ4).bind fun r μ5 => match r with
            | .bl l => .ok (.bl l) μ5
            | _ => .no) Q := h3
          exact hc σ H3 _ ⟨ω3, δ, μ3, (l3.g.trans l2.g).trans (l1.g.trans hg), ((he.mono l1).mono l2).mono l3, w3, h3'.split fun u μ4 vu ω4 H4 l4 w4 r4 h4 =>
            hr' W ω4 σ μ4 H4 y vu b u _ (l4.g.trans (l3.g.trans (l2.g.trans (l1.g.trans hg)))) w4 ((r2.mono l3).mono l4) r4 (by
              cases e : g b u μ4 with
              | no => rw [e] at h4; exact h4
              | ex n ns es μ => rw [e] at h4; exact h4
              | ok d μ5 =>
                rw [e] at h4
                intro v5 ω5 H5 l5 w5 r5
                cases r5 with
                | bl l => exact h4 _ ω5 H5 l5 w5 (.bl l)
                | _ => exact h4.elim)⟩
        | false => exact h3 _ ω3 H3 (Le.refl _) w3 (.bl false)
      | _ => exact h3.elim)⟩⟩
theorem ov_none : OV Γ W tNoPart mNoPart := fun σ H Q ⟨ω, δ, μ, hg, he, hw, h⟩ => h none ω H (Le.refl _) hw rfl
theorem ov_some (ha : EV Γ W ta ma) : OV Γ W (tPart ta) (mPart ma) := fun σ H Q ⟨ω, δ, μ, hg, he, hw, h⟩ =>
  ha σ H _ ⟨ω, δ, μ, hg, he, hw, h.split fun a μ1 x ω1 H1 l1 w1 r1 h1 => by
    cases r1 with
    | int k => exact ⟨k, rfl, h1 (some k) ω1 H1 (Le.refl _) w1 rfl⟩
    | _ => exact h1.elim⟩
theorem ev_sl {tl th : TO} {nl nh : Env → Mem → R (Option Int)} {r : V → Option Int → Option Int → Hp → VK → Prop} {f : Dt → Option Int → Option Int → Mem → R Dt} (hr : RSl r f) (ha : EV Γ W ta ma) (hl : OV Γ W tl nl) (hh : OV Γ W th nh) : EV Γ W (tSl r ta tl th) (mSl f ma nl nh) := fun σ H Q ⟨ω, δ, μ, hg, he, hw, h⟩ =>
  ha σ H _ ⟨ω, δ, μ, hg, he, hw, h.split fun a μ1 x ω1 H1 l1 w1 r1 h1 => hl σ H1 _ ⟨ω1, δ, μ1, l1.g.trans hg, he.mono l1, w1, h1.split fun lo μ2 vlo ω2 H2 l2 w2 r2 h2 => hh σ H2 _ ⟨ω2, δ, μ2, (l2.g.trans l1.g).trans hg, (he.mono l1).mono l2, w2, h2.split fun hi μ3 vhi ω3 H3 l3 w3 r3 h3 => by
    subst r2 r3
    exact hr W ω3 σ μ3 H3 x a _ _ Q w3 ((r1.mono l2).mono l3) h3⟩⟩⟩
/-- .. then the list changes no more -/
theorem ev_fz (ha : EV Γ W ta ma) : EV Γ W ta (mFz ma) := fun σ H Q ⟨ω, δ, μ, hg, he, hw, h⟩ =>
  ha σ H _ ⟨ω, δ, μ, hg, he, hw, GoE.split (f := freezeR) h fun a μ1 x ω1 H1 l1 w1 r1 h1 => by
    cases r1 with
    | ptr h2 =>
      rename_i i p
      unfold freezeR at h1
      dsimp only at h1
      split at h1
      · rename_i ds e
        obtain ⟨ω2, l2, w2, r2⟩ := w1.freeze h2 e
        exact h1 _ ω2 H1 l2 w2 r2
      · exact h1.elim
    | lst h2 r2 => exact h1 _ ω1 H1 (Le.refl _) w1 (.lst h2 r2)
    | _ => exact h1.elim⟩
/-! ### statements -/
variable {t u : TS} {m n : MS}
theorem sv_next : SV Γ W tNext sNext := fun D σ H ⟨ω, δ, μ, hg, he, hw, h⟩ => h σ ω H (Le.refl _) hw he
theorem sv_seq (h1 : SV Γ W t m) (h2 : SV Γ W u n) : SV Γ W (tSeq t u) (sSeq m n) := fun D σ H ⟨ω, δ, μ, hg, he, hw, h⟩ => h1 _ σ H ⟨ω, δ, μ, hg, he, hw, by
  unfold sSeq at h
  cases e : m δ μ with
  | nx δ' μ' =>
    rw [e] at h
    exact fun σ' ω' H' l w r => h2 D σ' H' ⟨ω', δ', μ', l.g.trans hg, r, w, GoS.mono h l⟩
  | rt d μ' => rw [e] at h; exact h
  | bk δ' μ' => rw [e] at h; exact h
  | ct δ' μ' => rw [e] at h; exact h
  | ex n ns es δ' μ' => rw [e] at h; exact h
  | no => rw [e] at h; exact h⟩
theorem sv_ret (ha : EV Γ W ta ma) : SV Γ W (tRet ta) (sRet ma) := fun D σ H ⟨ω, δ, μ, hg, he, hw, h⟩ =>
  ha σ H _ ⟨ω, δ, μ, hg, he, hw, GoE.splitS (f := fun d μ1 => .rt d μ1) he h fun a μ1 x ω1 H1 l1 w1 r1 h1 => h1 x ω1 H1 (Le.refl _) w1 r1⟩
theorem sv_retN : SV Γ W tRetN sRetN := fun D σ H ⟨ω, δ, μ, hg, he, hw, h⟩ => h .non ω H (Le.refl _) hw .non
theorem sv_drop (ha : EV Γ W ta ma) : SV Γ W (tDrop ta) (sDrop ma) := fun D σ H ⟨ω, δ, μ, hg, he, hw, h⟩ =>
  ha σ H _ ⟨ω, δ, μ, hg, he, hw, GoE.splitS (f := fun _ μ1 => .nx δ μ1) he h fun a μ1 x ω1 H1 l1 w1 r1 h1 => h1 σ ω1 H1 (Le.refl _) w1 (he.mono l1)⟩
theorem sv_if (ht : TV Γ W tt nt) (h1 : SV Γ W t m) (h2 : SV Γ W u n) : SV Γ W (tIfS tt t u) (sIf nt m n) := fun D σ H ⟨ω, δ, μ, hg, he, hw, h⟩ =>
  ht σ H _ ⟨ω, δ, μ, hg, he, hw, GoE.splitS (f := fun k μ1 => if k = true then m δ μ1 else n δ μ1) he h fun a μ1 x ω1 H1 l1 w1 r1 h3 => by
    subst r1
    cases x with
    | true => exact h1 D σ H1 ⟨ω1, δ, μ1, l1.g.trans hg, he.mono l1, w1, h3⟩
    | false => exact h2 D σ H1 ⟨ω1, δ, μ1, l1.g.trans hg, he.mono l1, w1, h3⟩⟩
/-- a target follows -/
def GV (t : TG) (g : MG) : Prop := ∀ ω μ H x a σ δ δ' Q, WR ω μ H → Rp ω x a → EnvR ω σ δ → g a δ μ = some δ' → (∀ σ' ω' H', Le ω ω' → WR ω' μ H' → EnvR ω' σ' δ' → Q σ' H') → t x σ H Q
theorem gv_name {i : Nat} : GV (gName i) (gSet i) := fun ω μ H x a σ δ δ' Q w r e h q => by
  cases h
  exact q _ ω H (Le.refl _) w (e.set i r)
theorem sv_asg {tg : TG} {g : MG} (ha : EV Γ W ta ma) (hg' : GV tg g) : SV Γ W (tAsg ta tg) (sAsg ma g) := fun D σ H ⟨ω, δ, μ, hg, he, hw, h⟩ =>
  ha σ H _ ⟨ω, δ, μ, hg, he, hw, GoE.splitS (f := fun d μ1 => match g d δ μ1 with
    | some δ' => .nx δ' μ1
    | none => .no) he h fun a μ1 x ω1 H1 l1 w1 r1 h1 => by
    cases e : g a δ μ1 with
    | none =>
      rw [e] at h1
      exact h1.elim
    | some δ' =>
      rw [e] at h1
      exact hg' ω1 μ1 H1 x a σ δ δ' _ w1 r1 (he.mono l1) e h1⟩
theorem sv_brk : SV Γ W tBreak sBrk := fun D σ H ⟨ω, δ, μ, hg, he, hw, h⟩ => h σ ω H (Le.refl _) hw he
theorem sv_cnt : SV Γ W tCont sCnt := fun D σ H ⟨ω, δ, μ, hg, he, hw, h⟩ => h σ ω H (Le.refl _) hw he
end
end DM

set_option linter.all false
set_option maxRecDepth 100000
set_option maxHeartbeats 4000000
/-! DM2: loops, comprehensions, what they walk; tuples as targets. -/
namespace DM
open PySem PySem.Spec PyProof.Rows L2
open Classical
/-- what is walked: its items, and a list of the store that must stay meanwhile -/
abbrev Src := List Dt × Option (Nat × MO)
abbrev MI := Env → Mem → R Src
def okG (g : Option (Nat × MO)) (μ : Mem) : Prop := ∀ i o, g = some (i, o) → μ[i]? = some o
@[simp] theorem okG_none (μ : Mem) : okG none μ = True := by simp [okG]
def YI (J : It) (ω : Wd) (s : Src) : Prop := ∀ i ω1 μ1 H1, Le0 ω ω1 → WR ω1 μ1 H1 → okG s.2 μ1 → (s.1.length ≤ i → J.stop i H1) ∧ ∀ d, s.1[i]? = some d → J.go i H1 ∧ ∀ x H2, J.yld i H1 x H2 → ∃ ω2, Le ω1 ω2 ∧ WR ω2 μ1 H2 ∧ Rp ω2 x d
def IV (Γ : Gm) (W : WX) (wi : TI) (m : MI) : Prop := ∀ σ H Q, rd (fun ω J s => YI J ω s) Γ W m σ H Q → wi σ H Q
noncomputable def forL (g : MG) (body : MS) (gd : Option (Nat × MO)) : List Dt → Env → Mem → O
  | [], δ, μ => if okG gd μ then .nx δ μ else .no
  | d :: ds, δ, μ => if okG gd μ then (match g d δ μ with
    | none => .no
    | some δ1 => match body δ1 μ with
      | .nx δ' μ' => forL g body gd ds δ' μ'
      | .ct δ' μ' => forL g body gd ds δ' μ'
      | .bk δ' μ' => .nx δ' μ'
      | .rt d μ' => .rt d μ'
      | .ex n ns es δ' μ' => .ex n ns es δ' μ'
      | .no => .no) else .no
noncomputable def sFor (it : MI) (g : MG) (body : MS) : MS := fun δ μ => (it δ μ).thn δ fun s μ1 => forL g body s.2 s.1 δ μ1
section
variable {Γ : Gm} {W : WX}
theorem sv_for {wi : TI} {mi : MI} {tg : TG} {g : MG} {tb : TS} {body : MS} (hi : IV Γ W wi mi) (hg : GV tg g) (hb : SV Γ W tb body) : SV Γ W (tFor wi tg tb) (sFor mi g body) := fun D σ H ⟨ω, δ, μ, hΓ, he, hw, h⟩ =>
  hi σ H _ ⟨ω, δ, μ, hΓ, he, hw, GoE.splitS (f := fun s μ1 => forL g body s.2 s.1 δ μ1) he h fun s μ1 J ω1 H1 l1 w1 y h1 => by
    obtain ⟨ds, gd⟩ := s
    refine ⟨fun i m σ H => m = ds.length - i ∧ i ≤ ds.length ∧ ∃ ω δ μ, Le ω1 ω ∧ EnvR ω σ δ ∧ WR ω μ H ∧ GoS W ω (forL g body gd (ds.drop i) δ μ) D, ⟨ds.length, rfl, Nat.zero_le _, ω1, δ, μ1, Le.refl _, he.mono l1, w1, h1⟩, ?_⟩
    rintro i m σ H ⟨rfl, hi, ω2, δ2, μ2, l2, e2, w2, h2⟩
    by_cases hlt : i < ds.length
    · have hd : ds[i]? = some ds[i] := List.getElem?_eq_getElem hlt
      rw [List.drop_eq_getElem_cons hlt] at h2
      unfold forL at h2
      split at h2
      · rename_i hok
        obtain ⟨hgo, hyl⟩ := (y i ω2 μ2 H l2.to0 w2 hok).2 _ hd
        refine .inr ⟨hgo, fun σ' H' => ∃ ω δ μ, Le ω1 ω ∧ EnvR ω σ' δ ∧ WR ω μ H' ∧ GoS W ω (forL g body gd (ds.drop (i + 1)) δ μ) D, fun σ' H' z => ⟨ds.length - (i + 1), by omega, rfl, hlt, z⟩, fun x H' hx => ?_⟩
        obtain ⟨ω3, l3, w3, r3⟩ := hyl x H' hx
        split at h2
        · exact h2.elim
        · rename_i δ3 eg
          refine hg ω3 μ2 H' x _ σ δ2 δ3 _ w3 r3 (e2.mono l3) eg fun σ4 ω4 H4 l4 w4 e4 => ?_
          have l14 := (l2.trans l3).trans l4
          refine hb _ σ4 H4 ⟨ω4, δ3, μ2, l14.g.trans (l1.g.trans hΓ), e4, w4, ?_⟩
          have h3 := GoS.mono h2 (l3.trans l4)
          revert h3
          cases body δ3 μ2 with
          | nx δ' μ' => exact fun h3 σ' ω' H' l w e => ⟨ω', δ', μ', l14.trans l, e, w, GoS.mono h3 l⟩
          | ct δ' μ' => exact fun h3 σ' ω' H' l w e => ⟨ω', δ', μ', l14.trans l, e, w, GoS.mono h3 l⟩
          | bk δ' μ' => exact fun h3 => h3
          | rt d μ' => exact fun h3 => h3
          | ex n ns es δ' μ' => exact fun h3 => h3
          | no => exact fun h3 => h3
      · exact h2.elim
    · have ei : i = ds.length := by omega
      subst ei
      rw [List.drop_length] at h2
      unfold forL at h2
      split at h2
      · rename_i hok
        exact .inl ⟨(y _ ω2 μ2 H l2.to0 w2 hok).1 (Nat.le_refl _), h2 σ ω2 H (Le.refl _) w2 e2⟩
      · exact h2.elim⟩
end
/-! ### while -/
def whileL (c : MT) (body : MS) : Nat → Env → Mem → O
  | 0, _, _ => .no
  | n + 1, δ, μ => (c δ μ).thn δ fun k μ1 => if k = true then (match body δ μ1 with
      | .nx δ' μ' => whileL c body n δ' μ'
      | .ct δ' μ' => whileL c body n δ' μ'
      | .bk δ' μ' => .nx δ' μ'
      | .rt d μ' => .rt d μ'
      | .ex n ns es δ' μ' => .ex n ns es δ' μ'
      | .no => .no) else .nx δ μ1
def sWhile (n : Nat) (c : MT) (body : MS) : MS := fun δ μ => whileL c body n δ μ
section
variable {Γ : Gm} {W : WX}
theorem sv_while {n : Nat} {tc : TT} {c : MT} {tb : TS} {body : MS} (hc : TV Γ W tc c) (hb : SV Γ W tb body) : SV Γ W (tWhile tc tb) (sWhile n c body) := fun D σ H ⟨ω, δ, μ, hΓ, he, hw, h⟩ => by
  refine ⟨fun m σ H => ∃ ω' δ μ, Le ω ω' ∧ EnvR ω' σ δ ∧ WR ω' μ H ∧ GoS W ω' (whileL c body m δ μ) D, ⟨n, ω, δ, μ, Le.refl _, he, hw, h⟩, ?_⟩
  rintro m σ H ⟨ω2, δ2, μ2, l2, e2, w2, h2⟩
  cases m with
  | zero => exact h2.elim
  | succ m =>
    unfold whileL at h2
    refine hc σ H _ ⟨ω2, δ2, μ2, l2.g.trans hΓ, e2, w2, GoE.splitS (f := fun k μ1 => if k = true then (match body δ2 μ1 with
      | .nx δ' μ' => whileL c body m δ' μ'
      | .ct δ' μ' => whileL c body m δ' μ'
      | .bk δ' μ' => .nx δ' μ'
      | .rt d μ' => .rt d μ'
      | .ex n ns es δ' μ' => .ex n ns es δ' μ'
      | .no => .no) else .nx δ2 μ1) e2 h2 fun k μ3 x ω3 H3 l3 w3 r3 h3 => ?_⟩
    subst r3
    cases x with
    | false => exact h3 σ ω3 H3 (Le.refl _) w3 (e2.mono l3)
    | true =>
      show ∃ N : L2.St → Hp → Prop, _
      refine ⟨fun σ' H' => ∃ ω' δ μ, Le ω ω' ∧ EnvR ω' σ' δ ∧ WR ω' μ H' ∧ GoS W ω' (whileL c body m δ μ) D, fun σ' H' z => ⟨m, Nat.lt_succ_self _, z⟩, ?_⟩
      refine hb _ σ H3 ⟨ω3, δ2, μ3, l3.g.trans (l2.g.trans hΓ), e2.mono l3, w3, ?_⟩
      have h4 : GoS W ω3 (match body δ2 μ3 with
        | .nx δ' μ' => whileL c body m δ' μ'
        | .ct δ' μ' => whileL c body m δ' μ'
        | .bk δ' μ' => .nx δ' μ'
        | .rt d μ' => .rt d μ'
        | .ex n ns es δ' μ' => .ex n ns es δ' μ'
        | .no => .no) D := h3
      revert h4
      have l23 := l2.trans l3
      cases body δ2 μ3 with
      | nx δ' μ' => exact fun h3 σ' ω' H' l w e => ⟨ω', δ', μ', l23.trans l, e, w, GoS.mono h3 l⟩
      | ct δ' μ' => exact fun h3 σ' ω' H' l w e => ⟨ω', δ', μ', l23.trans l, e, w, GoS.mono h3 l⟩
      | bk δ' μ' => exact fun h3 => h3
      | rt d μ' => exact fun h3 => h3
      | ex n ns es δ' μ' => exact fun h3 => h3
      | no => exact fun h3 => h3
end
/-! ### comprehensions -/
abbrev W0 : WX := fun _ _ _ _ => False
def R.noX {β : Type} (r : R β) : R β := match r with
  | .ex _ _ _ _ => .no
  | r => r
noncomputable def lcL (g : MG) (t : MT) (e : MX) (δ0 : Env) (gd : Option (Nat × MO)) : List Dt → Mem → R (List Dt)
  | [], μ => if okG gd μ then .ok [] μ else .no
  | d :: ds, μ => if okG gd μ then (match g d δ0 μ with
    | none => .no
    | some δ1 => (t δ1 μ).noX.bind fun k μ1 => if k = true then (e δ1 μ1).noX.bind fun y μ2 => (lcL g t e δ0 gd ds μ2).bind fun ys μ3 => .ok (y :: ys) μ3 else lcL g t e δ0 gd ds μ1) else .no
noncomputable def lcR (mi : MI) (g : MG) (t : MT) (e : MX) (vs : List Nat) : MA := fun δ μ => (mi δ μ).bind fun s μ1 => if s.1.length ≤ 1000000 then lcL g t e (wipeD δ vs) s.2 s.1 μ1 else .no
/-- [e for .. in .. if ..], that changes no more -/
noncomputable def mLc (mi : MI) (g : MG) (t : MT) (e : MX) (vs : List Nat) : MX := fun δ μ => (lcR mi g t e vs δ μ).bind fun ds μ1 => .ok (.lst ds) μ1
/-- .., a new list that may change -/
noncomputable def mLcN (mi : MI) (g : MG) (t : MT) (e : MX) (vs : List Nat) : MX := fun δ μ => (lcR mi g t e vs δ μ).bind fun ds μ1 => .ok (.ptr μ1.length) (μ1 ++ [.lst ds])
/-- a target that writes no other slots -/
def GL (t : TG) (vs : List Nat) : Prop := ∀ x σ H Q, t x σ H Q → t x σ H fun σ2 H2 => wipe σ2 vs = wipe σ vs ∧ Q σ2 H2
theorem wipe_set {σ : L2.St} {j : Nat} {o : Option V} : ∀ {vs : List Nat}, j ∈ vs → wipe (σ.set j o) vs = wipe σ vs
  | [], h => by simp at h
  | v :: vs, h => by
    unfold wipe
    by_cases hj : j ∈ vs
    · rw [wipe_set hj]
    · have e : j = v := by
        rcases List.mem_cons.mp h with e | e
        · exact e
        · exact absurd e hj
      subst e
      have comm : ∀ (vs : List Nat), j ∉ vs → wipe (σ.set j o) vs = (wipe σ vs).set j o := by
        intro vs
        induction vs with
        | nil => intro _; rfl
        | cons w ws ih =>
          intro hw
          unfold wipe
          rw [ih (fun z => hw (List.mem_cons_of_mem _ z)), List.set_comm _ _ (fun z => hw (by rw [z]; exact List.mem_cons_self))]
      rw [comm vs hj, List.set_set]
theorem gl_name {i : Nat} {vs : List Nat} (h : i ∈ vs) : GL (gName i) vs := fun x σ H Q q => ⟨wipe_set h, q⟩
theorem wipe_wipe {σ : L2.St} : ∀ (vs : List Nat), wipe (wipe σ vs) vs = wipe σ vs := fun vs => by
  have key : ∀ ws : List Nat, (∀ x ∈ ws, x ∈ vs) → wipe (wipe σ ws) vs = wipe σ vs := by
    intro ws
    induction ws with
    | nil => intro _; rfl
    | cons w ws ih =>
      intro h
      show wipe ((wipe σ ws).set w none) vs = _
      rw [wipe_set (h w List.mem_cons_self), ih fun x hx => h x (List.mem_cons_of_mem _ hx)]
  exact key vs fun _ h => h
section
variable {Γ : Gm} {W : WX}
/-- a list that stands aside is of the store from then on -/
theorem WR.oldM {ω : Wd} {μ : Mem} {H : Hp} {D : Addr} {acc : List V} {ys : List Dt} (w : WR ω μ H) (hn : ∀ (i : Nat) (a : Addr), ω.α[i]? = some a → a ≠ D) (hF : ω.F D = none) (hB : ω.B D = none) (hD : H D = some (.lst acc)) (r : RpL ω acc ys) :
    Le ω { ω with α := ω.α ++ [D] } ∧ WR { ω with α := ω.α ++ [D] } (μ ++ [.lst ys]) H ∧ (ω.α ++ [D])[μ.length]? = some D := by
  have l : Le ω { ω with α := ω.α ++ [D] } := ⟨rfl, fun i a h => by
    show (ω.α ++ [D])[i]? = some a
    rw [List.getElem?_append_left (List.getElem?_eq_some_iff.mp h).1]
    exact h, Same.refl _, rfl⟩
  have at_last : ∀ (i : Nat) (a : Addr), (ω.α ++ [D])[i]? = some a → ω.α[i]? = some a ∨ (i = ω.α.length ∧ a = D) := fun i a q => by
    by_cases hi : i < ω.α.length
    · rw [List.getElem?_append_left hi] at q
      exact .inl q
    · have h2 := (List.getElem?_eq_some_iff.mp q).1
      rw [List.length_append, List.length_singleton] at h2
      have e : i = ω.α.length := by omega
      subst e
      rw [List.getElem?_append_right (Nat.le_refl _), Nat.sub_self] at q
      exact .inr ⟨rfl, by simpa using q.symm⟩
  refine ⟨l, ⟨w.x, by simp [w.len], fun i j a h1 h2 => ?_, fun i a o' h1 e => ?_, w.fr, fun i a h1 => (at_last i a h1).elim (w.fa i a) fun z => by rw [z.2]; exact hF, w.fb⟩, ?_⟩
  · rcases at_last i a h1 with q1 | ⟨q1, e1⟩
    · rcases at_last j a h2 with q2 | ⟨q2, e2⟩
      · exact w.inj i j a q1 q2
      · exact absurd e2 (hn i a q1)
    · rcases at_last j a h2 with q2 | ⟨q2, e2⟩
      · exact absurd e1 (hn j a q2)
      · rw [q1, q2]
  · rcases at_last i a h1 with q1 | ⟨q1, e1⟩
    · have hi : i < μ.length := by
        rw [← w.len]
        exact (List.getElem?_eq_some_iff.mp q1).1
      rw [List.getElem?_append_left hi] at e
      exact (w.at_ i a o' q1 e).move l rfl fun z => z
    · subst e1
      rw [q1, w.len, List.getElem?_append_right (Nat.le_refl _), Nat.sub_self] at e
      cases e
      exact ⟨hB, acc, hD, r.mono l⟩
  · rw [← w.len, List.getElem?_append_right (Nat.le_refl _), Nat.sub_self]
    rfl
theorem GoE.noX {β γ : Type} {rel : Wd → γ → β → Prop} {ω : Wd} {σ : L2.St} {r : R β} {Q : γ → Hp → Prop} {W1 : WX} (h : GoE rel W1 ω σ r.noX Q) : GoE rel W ω σ r Q := by
  cases r with
  | ok d μ => exact h
  | ex n ns es μ => exact h.elim
  | no => exact h
/-- the run of a comprehension; k: what its end gives -/
theorem lc_run {wi : TI} {mi : MI} {tg : TG} {g : MG} {tt : TT} {nt : MT} {te : TE} {me : MX} {vs : List Nat} (hi : IV Γ W wi mi) (hg : GV tg g) (hl : GL tg vs) (ht : TV Γ W0 tt nt) (he' : EV Γ W0 te me) {σ : L2.St} {H : Hp} {Q : VK} {f : List Dt → Mem → R Dt} {ω : Wd} {δ : Env} {μ : Mem} (hΓ : ω.Γ = Γ) (he : EnvR ω σ δ) (hw : WR ω μ H)
    (h : GoE Rp W ω σ ((lcR mi g nt me vs δ μ).bind f) Q)
    (k : ∀ (ω1 : Wd) (μ1 : Mem) (H1 : Hp) (D : Addr) (acc : List V) (ys : List Dt), Le ω { ω1 with F := ω.F } → WR { ω1 with F := ω.F } μ1 H1 → H1 D = some (.lst acc) → ω1.B D = none → (∀ (i : Nat) (a : Addr), ω1.α[i]? = some a → a ≠ D) → ω.F D = none → RpL { ω1 with F := ω.F } acc ys → GoE Rp W ω σ (f ys μ1) Q → Q (.ref D) H1) : tLc wi tg tt te vs σ H Q :=
  hi σ H _ ⟨ω, δ, μ, hΓ, he, hw, by
    unfold lcR at h
    cases e0 : mi δ μ with
    | no => rw [e0] at h; exact h
    | ex n ns es μ => rw [e0] at h; exact h
    | ok s μ1 =>
      rw [e0] at h
      have h : GoE Rp W ω σ (R.bind (if s.1.length ≤ 1000000 then lcL g nt me (wipeD δ vs) s.2 s.1 μ1 else .no) f) Q := h
      split at h
      case isFalse => exact h.elim
      rename_i hlen
      obtain ⟨ds, gd⟩ := s
      intro J ω1 H1 l1 w1 y D hD
      have FD : ω1.F D = none := w1.fr.free hD
      have BD : ω1.B D = none := w1.x.free hD
      have FF : ω1.F = ω.F := l1.f
      refine ⟨fun i m H => m = ds.length - i ∧ i ≤ ds.length ∧ ∃ ω2 μ2 acc done, Le0 ω1 ω2 ∧ ω2.F = upd ω1.F D (.lst acc) ∧ WR ω2 μ2 H ∧ RpL ω2 acc done ∧ done.length ≤ i ∧ GoE Rp W ω σ ((lcL g nt me (wipeD δ vs) gd (ds.drop i) μ2).bind fun ys μ3 => f (done ++ ys) μ3) Q,
        ⟨ds.length, rfl, Nat.zero_le _, { ω1 with F := upd ω1.F D (.lst []) }, μ1, [], [], ⟨rfl, fun _ _ h => h, Same.refl _⟩, rfl, ?_, .nil, Nat.le_refl _, h⟩, ?_⟩
      · refine ⟨same_hid w1.x BD, w1.len, w1.inj, fun i a o h1 e => ?_, same_upd2 w1.fr, fun i a h1 => (upd_ne (w1.fresh hD h1)).trans (w1.fa i a h1), fun a o e => ?_⟩
        · exact (w1.at_ i a o h1 e).move0 ⟨rfl, fun _ _ h => h, Same.refl _⟩ (upd_ne (w1.fresh hD h1)) fun z => z
        · by_cases ha : a = D
          · have e : upd ω1.F D (.lst []) a = some o := e
            rw [ha, upd_same] at e
            cases e
            rw [ha]
            exact ⟨BD, _, rfl⟩
          · have e : upd ω1.F D (.lst []) a = some o := e
            rw [upd_ne ha] at e
            exact w1.fb a o e
      · rintro i m H ⟨rfl, hi, ω2, μ2, acc, done, l2, f2, w2, r2, hdn, h2⟩
        have F2 : ω2.F D = some (.lst acc) := by rw [f2, upd_same]
        by_cases hlt : i < ds.length
        · have hd : ds[i]? = some ds[i] := List.getElem?_eq_getElem hlt
          rw [List.drop_eq_getElem_cons hlt] at h2
          unfold lcL at h2
          split at h2
          case isFalse => exact h2.elim
          rename_i hok
          obtain ⟨hgo, hyl⟩ := (y i ω2 μ2 H l2 w2 hok).2 _ hd
          refine .inr ⟨hgo, fun H' => ∃ ω2 μ2 acc done, Le0 ω1 ω2 ∧ ω2.F = upd ω1.F D (.lst acc) ∧ WR ω2 μ2 H' ∧ RpL ω2 acc done ∧ done.length ≤ i + 1 ∧ GoE Rp W ω σ ((lcL g nt me (wipeD δ vs) gd (ds.drop (i + 1)) μ2).bind fun ys μ3 => f (done ++ ys) μ3) Q, fun H' z => ⟨ds.length - (i + 1), by omega, rfl, hlt, z⟩, fun x H' hx => ?_⟩
          obtain ⟨ω3, l3, w3, r3⟩ := hyl x H' hx
          have e3 : EnvR ω3 (wipe σ vs) (wipeD δ vs) := (he.mono0 ((l1.to0.trans l2).trans l3.to0)).wipe vs
          cases eg : g ds[i] (wipeD δ vs) μ2 with
          | none => rw [eg] at h2; exact h2.elim
          | some δ1 =>
            rw [eg] at h2
            have h2 : GoE Rp W ω σ (R.bind ((nt δ1 μ2).noX.bind fun k μ1 => if k = true then (me δ1 μ1).noX.bind fun y μ2 => (lcL g nt me (wipeD δ vs) gd (ds.drop (i + 1)) μ2).bind fun ys μ3 => .ok (y :: ys) μ3 else lcL g nt me (wipeD δ vs) gd (ds.drop (i + 1)) μ1) fun ys μ3 => f (done ++ ys) μ3) Q := h2
            have z := hl x (wipe σ vs) H' (fun σ2 H2 => tt σ2 H2 fun b H3 => if b = true then te σ2 H3 fun y H4 => ∃ acc, H4 D = some (.lst acc) ∧ acc.length < sizeLine ∧ (fun H' => ∃ ω2 μ2 acc done, Le0 ω1 ω2 ∧ ω2.F = upd ω1.F D (.lst acc) ∧ WR ω2 μ2 H' ∧ RpL ω2 acc done ∧ done.length ≤ i + 1 ∧ GoE Rp W ω σ ((lcL g nt me (wipeD δ vs) gd (ds.drop (i + 1)) μ2).bind fun ys μ3 => f (done ++ ys) μ3) Q) (upd H4 D (.lst (acc ++ [y]))) else (fun H' => ∃ ω2 μ2 acc done, Le0 ω1 ω2 ∧ ω2.F = upd ω1.F D (.lst acc) ∧ WR ω2 μ2 H' ∧ RpL ω2 acc done ∧ done.length ≤ i + 1 ∧ GoE Rp W ω σ ((lcL g nt me (wipeD δ vs) gd (ds.drop (i + 1)) μ2).bind fun ys μ3 => f (done ++ ys) μ3) Q) H3) ?_
            · rw [wipe_wipe] at z
              exact z
            · refine hg ω3 μ2 H' x _ (wipe σ vs) (wipeD δ vs) δ1 _ w3 r3 e3 eg fun σ4 ω4 H4 l4 w4 e4 => ?_
              have l14 : Le0 ω1 ω4 := (l2.trans l3.to0).trans l4.to0
              have f4 : ω4.F = upd ω1.F D (.lst acc) := (l4.f.trans l3.f).trans f2
              refine ht σ4 H4 _ ⟨ω4, δ1, μ2, l14.g.trans (l1.g.trans hΓ), e4, w4, ?_⟩
              cases en : nt δ1 μ2 with
              | no => rw [en] at h2; exact h2.elim
              | ex n ns es μ => rw [en] at h2; exact h2.elim
              | ok kk μ3 =>
                rw [en] at h2
                intro v ω5 H5 l5 w5 r5
                subst r5
                have l15 := l14.trans l5.to0
                have f5 := l5.f.trans f4
                have r25 : RpL ω5 acc done := r2.mono0 ((l3.to0.trans l4.to0).trans l5.to0)
                cases v with
                | false => exact ⟨ω5, μ3, acc, done, l15, f5, w5, r25, Nat.le_succ_of_le hdn, h2⟩
                | true =>
                  show te σ4 H5 _
                  have h2 : GoE Rp W ω σ (R.bind ((me δ1 μ3).noX.bind fun y μ2 => (lcL g nt me (wipeD δ vs) gd (ds.drop (i + 1)) μ2).bind fun ys μ3 => .ok (y :: ys) μ3) fun ys μ3 => f (done ++ ys) μ3) Q := h2
                  refine he' σ4 H5 _ ⟨ω5, δ1, μ3, l15.g.trans (l1.g.trans hΓ), e4.mono l5, w5, ?_⟩
                  cases em : me δ1 μ3 with
                  | no => rw [em] at h2; exact h2.elim
                  | ex n ns es μ => rw [em] at h2; exact h2.elim
                  | ok yd μ4 =>
                    rw [em] at h2
                    intro yv ω6 H6 l6 w6 r6
                    have f6 : ω6.F = upd ω1.F D (.lst acc) := l6.f.trans f5
                    have F6 : ω6.F D = some (.lst acc) := by rw [f6, upd_same]
                    have B6 : ω6.B D = none := (w6.fb D _ F6).1
                    have ne6 : ∀ {i : Nat} {a : Addr}, ω6.α[i]? = some a → a ≠ D := fun {i a} h z => by
                      have q := w6.fa i a h
                      rw [z, F6] at q
                      cases q
                    have hacc : acc.length ≤ 1000000 := by
                      rw [r2.len]
                      exact Nat.le_trans hdn (Nat.le_trans hi hlen)
                    refine ⟨acc, w6.fr D _ F6, Nat.lt_of_le_of_lt hacc (by decide), { ω6 with F := upd ω1.F D (.lst (acc ++ [yv])) }, μ4, acc ++ [yv], done ++ [yd], l15.trans (l6.to0.trans ⟨rfl, fun _ _ h => h, Same.refl _⟩), rfl, ?_, ?_, by rw [List.length_append, List.length_singleton]; omega, ?_⟩
                    · refine ⟨same_hid w6.x B6, w6.len, w6.inj, fun i a o h1 e => ?_, fun a o e => ?_, fun i a h1 => ?_, fun a o e => ?_⟩
                      · exact (w6.at_ i a o h1 e).move0 ⟨rfl, fun _ _ h => h, Same.refl _⟩ (upd_ne (ne6 h1)) fun z => z
                      · by_cases ha : a = D
                        · have e : upd ω1.F D (.lst (acc ++ [yv])) a = some o := e
                          rw [ha, upd_same] at e
                          cases e
                          rw [ha, upd_same]
                        · have e : upd ω1.F D (.lst (acc ++ [yv])) a = some o := e
                          rw [upd_ne ha] at e ⊢
                          exact w6.fr a o (by rw [f6, upd_ne ha]; exact e)
                      · show upd ω1.F D (.lst (acc ++ [yv])) a = none
                        rw [upd_ne (ne6 h1)]
                        have q := w6.fa i a h1
                        rw [f6, upd_ne (ne6 h1)] at q
                        exact q
                      · by_cases ha : a = D
                        · have e : upd ω1.F D (.lst (acc ++ [yv])) a = some o := e
                          rw [ha, upd_same] at e
                          cases e
                          rw [ha]
                          exact ⟨B6, _, rfl⟩
                        · have e : upd ω1.F D (.lst (acc ++ [yv])) a = some o := e
                          rw [upd_ne ha] at e
                          exact w6.fb a o (by rw [f6, upd_ne ha]; exact e)
                    · have l67 : Le0 ω6 { ω6 with F := upd ω1.F D (.lst (acc ++ [yv])) } := ⟨rfl, fun _ _ h => h, Same.refl _⟩
                      exact (r25.mono0 (l6.to0.trans l67)).app (.cons (r6.mono0 l67) .nil)
                    · have h2 : GoE Rp W ω σ (R.bind ((lcL g nt me (wipeD δ vs) gd (ds.drop (i + 1)) μ4).bind fun ys μ3 => .ok (yd :: ys) μ3) fun ys μ3 => f (done ++ ys) μ3) Q := h2
                      revert h2
                      cases lcL g nt me (wipeD δ vs) gd (ds.drop (i + 1)) μ4 with
                      | no => exact fun z => z
                      | ex n ns es μ => exact fun z => z
                      | ok ys μ5 =>
                        intro h2
                        show GoE Rp W ω σ (f ((done ++ [yd]) ++ ys) μ5) Q
                        rw [List.append_assoc]
                        exact h2
        · have ei : i = ds.length := by omega
          subst ei
          rw [List.drop_length] at h2
          unfold lcL at h2
          split at h2
          case isFalse => exact h2.elim
          rename_i hok
          have h2 : GoE Rp W ω σ (f (done ++ []) μ2) Q := h2
          rw [List.append_nil] at h2
          have sF : Same ω.F ω2.F := by
            rw [f2, ← FF]
            exact same_upd FD
          have l02 : Le0 ω2 { ω2 with F := ω.F } := ⟨rfl, fun _ _ h => h, Same.refl _⟩
          have l2' := (l1.to0.trans l2).trans l02
          exact .inl ⟨(y _ ω2 μ2 H l2 w2 hok).1 (Nat.le_refl _), k ω2 μ2 H D acc done ⟨l2'.g, l2'.a, l2'.b, rfl⟩ (w2.reF sF) (w2.fr D _ F2) (w2.fb D _ F2).1 (fun i a h z => by
            have q := w2.fa i a h
            rw [z, F2] at q
            cases q) (by rw [← FF]; exact FD) (r2.mono0 l02) h2⟩⟩
theorem ev_lc {wi : TI} {mi : MI} {tg : TG} {g : MG} {tt : TT} {nt : MT} {te : TE} {me : MX} {vs : List Nat} (hi : IV Γ W wi mi) (hg : GV tg g) (hl : GL tg vs) (ht : TV Γ W0 tt nt) (he' : EV Γ W0 te me) : EV Γ W (tLc wi tg tt te vs) (mLc mi g nt me vs) := fun σ H Q ⟨ω, δ, μ, hΓ, he, hw, h⟩ =>
  lc_run (f := fun ds μ1 => .ok (.lst ds) μ1) hi hg hl ht he' hΓ he hw h fun ω1 μ1 H1 D acc ys l w hD hB hn hF r h1 => by
    have l2 : Le { ω1 with F := ω.F } { ω1 with F := ω.F, B := upd ω1.B D (.lst acc) } := ⟨rfl, fun _ _ h => h, same_upd hB, rfl⟩
    refine h1 _ _ _ (l.trans l2) ⟨fun b u q => ?_, w.len, w.inj, fun i a o h1 e => (w.at_ i a o h1 e).move l2 rfl fun z => (upd_ne (hn i a h1)).trans z, w.fr, w.fa, fun a o e => ⟨(upd_ne (ne_of_none e hF)).trans (w.fb a o e).1, (w.fb a o e).2⟩⟩ (.lst upd_same (r.mono l2))
    by_cases hb : b = D
    · have q : upd ω1.B D (.lst acc) b = some u := q
      rw [hb, upd_same] at q
      cases q
      rw [hb]
      exact hD
    · have q : upd ω1.B D (.lst acc) b = some u := q
      rw [upd_ne hb] at q
      exact w.x b u q
theorem ev_lcN {wi : TI} {mi : MI} {tg : TG} {g : MG} {tt : TT} {nt : MT} {te : TE} {me : MX} {vs : List Nat} (hi : IV Γ W wi mi) (hg : GV tg g) (hl : GL tg vs) (ht : TV Γ W0 tt nt) (he' : EV Γ W0 te me) : EV Γ W (tLc wi tg tt te vs) (mLcN mi g nt me vs) := fun σ H Q ⟨ω, δ, μ, hΓ, he, hw, h⟩ =>
  lc_run (f := fun (ds : List Dt) (μ1 : Mem) => R.ok (Dt.ptr μ1.length) (μ1 ++ [MO.lst ds])) hi hg hl ht he' hΓ he hw h fun ω1 μ1 H1 D acc ys l w hD hB hn hF r h1 => by
    obtain ⟨l2, w2, e2⟩ := WR.oldM w hn hF hB hD r
    exact h1 _ _ _ (l.trans l2) w2 (.ptr e2)
end
end DM

set_option linter.all false
set_option maxRecDepth 100000
set_option maxHeartbeats 4000000
/-! DM3: operators, built-ins, methods of texts and lists, what is walked: as functions of data. -/
namespace DM
open PySem PySem.Spec PyProof.Rows L2
open Classical
variable {Γ : Gm}
/-! ### lists, known or of the store -/
def asL (μ : Mem) : Dt → Option (List Dt)
  | .lst ds => some ds
  | .ptr i => match μ[i]? with
    | some (.lst ds) => some ds
    | _ => none
  | _ => none
theorem asL_ok {ω : Wd} {μ : Mem} {H : Hp} {x : V} {d : Dt} {ds : List Dt} (w : WR ω μ H) (r : Rp ω x d) (h : asL μ d = some ds) : ∃ a xs, x = .ref a ∧ H a = some (.lst xs) ∧ RpL ω xs ds := by
  cases r with
  | lst h1 r1 =>
    cases h
    exact ⟨_, _, rfl, w.x _ _ h1, r1⟩
  | ptr h1 =>
    rename_i i a
    unfold asL at h
    dsimp only at h
    split at h
    · rename_i ds' e
      cases h
      obtain ⟨_, xs, hx, r⟩ := w.at_ i a _ h1 e
      exact ⟨_, _, rfl, hx, r⟩
    · cases h
  | _ => cases h
/-- the result goes on -/
theorem GoE.ok {ω : Wd} {W : WX} {σ : L2.St} {d : Dt} {μ : Mem} {Q : VK} {v : V} {H : Hp} (h : GoE Rp W ω σ (.ok d μ) Q) (w : WR ω μ H) (r : Rp ω v d) : Q v H := h v ω H (Le.refl ω) w r
theorem GoE.new {ω : Wd} {W : WX} {σ : L2.St} {ds : List Dt} {μ : Mem} {Q : VK} {xs : List V} {H : Hp} {p : Addr} (h : GoE Rp W ω σ (.ok (.lst ds) μ) Q) (w : WR ω μ H) (r : RpL ω xs ds) (hp : H p = none) : Q (.ref p) (upd H p (.lst xs)) := by
  obtain ⟨l, w2⟩ := w.newB (u := .lst xs) hp
  exact h _ _ _ l w2 (.lst upd_same (r.mono l))
theorem GoE.newT {ω : Wd} {W : WX} {σ : L2.St} {ds : List Dt} {μ : Mem} {Q : VK} {xs : List V} {H : Hp} {p : Addr} (h : GoE Rp W ω σ (.ok (.tup ds) μ) Q) (w : WR ω μ H) (r : RpL ω xs ds) (hp : H p = none) : Q (.ref p) (upd H p (.tup xs)) := by
  obtain ⟨l, w2⟩ := w.newB (u := .tup xs) hp
  exact h _ _ _ l w2 (.tup upd_same (r.mono l))
/-! ### operators -/
def rAddS : R2 := fun x y H Q => ∃ i j, x = .str i ∧ y = .str j ∧ i.length + j.length ≤ sizeLine ∧ Q (.str (i ++ j)) H
def uAdd : R2 := fun x y H Q => rI0 (fun i j => .int (i + j)) x y H Q ∨ (rAddS x y H Q ∨ rCat x y H Q)
theorem uop_add {X : Cx} : OpR X (binaryOp .Add) uAdd := op_add.or ((show OpR X (binaryOp .Add) rAddS from op_add_str).or op_cat)
def oAdd (a b : Dt) (μ : Mem) : R Dt := match a, b with
  | .int i, .int j => .ok (.int (i + j)) μ
  | .str x, .str y => if x.length + y.length ≤ 10000000 then .ok (.str (x ++ y)) μ else .no
  | a, b => match asL μ a, asL μ b with
    | some ds, some es => if ds.length + es.length ≤ 1000000 then .ok (.lst (ds ++ es)) μ else .no
    | _, _ => .no
theorem ro_add : RO Γ uAdd oAdd := fun W ω σ μ H x y a b Q hg w ra rb h => by
  unfold oAdd at h
  split at h
  · cases ra
    cases rb
    exact .inl ⟨_, _, rfl, rfl, h.ok w (.int _)⟩
  · cases ra
    cases rb
    split at h
    · rename_i hl
      exact .inr (.inl ⟨_, _, rfl, rfl, Nat.le_trans hl (by decide), h.ok w (.str _)⟩)
    · exact h.elim
  · split at h
    · rename_i ds es e1 e2
      split at h
      · rename_i hl
        obtain ⟨p, xs, rfl, hx, rx⟩ := asL_ok w ra e1
        obtain ⟨q, ys, rfl, hy, ry⟩ := asL_ok w rb e2
        exact .inr (.inr ⟨_, _, _, _, rfl, rfl, hx, hy, by rw [rx.len, ry.len]; exact Nat.le_trans hl (by decide), fun p hp => h.new w (rx.app ry) hp⟩)
      · exact h.elim
    · exact h.elim
def oInt (f : Int → Int → Dt) (a b : Dt) (μ : Mem) : R Dt := match a, b with
  | .int i, .int j => .ok (f i j) μ
  | _, _ => .no
noncomputable def oIntC (C : Int → Int → Prop) (f : Int → Int → Dt) (a b : Dt) (μ : Mem) : R Dt := match a, b with
  | .int i, .int j => if C i j then .ok (f i j) μ else .no
  | _, _ => .no
theorem ro_int {g : Int → Int → V} {f : Int → Int → Dt} (hr : ∀ (ω : Wd) i j, Rp ω (g i j) (f i j)) : RO Γ (rI0 g) (oInt f) := fun W ω σ μ H x y a b Q hg w ra rb h => by
  unfold oInt at h
  split at h
  · cases ra
    cases rb
    exact ⟨_, _, rfl, rfl, h.ok w (hr ω _ _)⟩
  · exact h.elim
theorem ro_intC {C : Int → Int → Prop} {g : Int → Int → V} {f : Int → Int → Dt} (hr : ∀ (ω : Wd) i j, Rp ω (g i j) (f i j)) : RO Γ (rI C g) (oIntC C f) := fun W ω σ μ H x y a b Q hg w ra rb h => by
  unfold oIntC at h
  split at h
  · split at h
    · rename_i hc
      cases ra
      cases rb
      exact ⟨_, _, rfl, rfl, hc, h.ok w (hr ω _ _)⟩
    · exact h.elim
  · exact h.elim
abbrev oSub := oInt fun i j => .int (i - j)
theorem ro_sub : RO Γ (rI0 fun i j => .int (i - j)) oSub := ro_int fun _ _ _ => .int _
noncomputable abbrev oMod := oIntC (fun _ j => j ≠ 0) fun i j => .int (i.fmod j)
theorem ro_mod : RO Γ (rI (fun _ j => j ≠ 0) fun i j => .int (i.fmod j)) oMod := ro_intC fun _ _ _ => .int _
noncomputable abbrev oFdiv := oIntC CDivN fun i j => .int (i.fdiv j)
theorem ro_fdiv : RO Γ (rI CDivN fun i j => .int (i.fdiv j)) oFdiv := ro_intC fun _ _ _ => .int _
noncomputable abbrev oPow := oIntC CPow fun i j => .int (i ^ j.toNat)
theorem ro_pow : RO Γ (rI CPow fun i j => .int (i ^ j.toNat)) oPow := ro_intC fun _ _ _ => .int _
abbrev oLt := oInt fun i j => .bl (decide (i < j))
theorem ro_lt : RO Γ (rI0 fun i j => .bl (decide (i < j))) oLt := ro_int fun _ _ _ => .bl _
abbrev oLe := oInt fun i j => .bl (decide (i ≤ j))
theorem ro_le : RO Γ (rI0 fun i j => .bl (decide (i ≤ j))) oLe := ro_int fun _ _ _ => .bl _
abbrev oGt := oInt fun i j => .bl (decide (j < i))
theorem ro_gt : RO Γ (rI0 fun i j => .bl (decide (j < i))) oGt := ro_int fun _ _ _ => .bl _
abbrev oGe := oInt fun i j => .bl (decide (j ≤ i))
theorem ro_ge : RO Γ (rI0 fun i j => .bl (decide (j ≤ i))) oGe := ro_int fun _ _ _ => .bl _
def oNeg (a : Dt) (μ : Mem) : R Dt := match a with
  | .int i => .ok (.int (-i)) μ
  | _ => .no
theorem ru_neg : RU (rU fun i => .int (-i)) oNeg := fun W ω σ μ H x a Q w ra h => by
  unfold oNeg at h
  split at h
  · cases ra
    exact ⟨_, rfl, h.ok w (.int _)⟩
  · exact h.elim
/-! a text, again and again -/
def repS (x : Str) (n : Int) : Str := if n < 1 then Str.empty else if (n == 1 || x.length == 0) = true then x else ⟨(List.replicate n.toNat x.cps).foldl (· ++ ·) #[]⟩
def rRepS : R2 := fun x y H Q => ∃ i n, x = .str i ∧ y = .int n ∧ -1000000000 ≤ n ∧ n ≤ 1000000000 ∧ i.length * n.toNat ≤ 10000000 ∧ Q (.str (repS i n)) H
theorem foldl_size (a : Array Nat) : ∀ (k : Nat) (b : Array Nat), ((List.replicate k a).foldl (· ++ ·) b).size = b.size + a.size * k
  | 0, b => rfl
  | k + 1, b => by
    rw [List.replicate_succ, List.foldl_cons, foldl_size a k, Array.size_append, Nat.mul_succ]
    omega
theorem op_repS {X : Cx} : OpR X (binaryOp .Mult) rRepS := by
  intro pins s σ H x y v u Q I rx ry h
  obtain ⟨i, n, rfl, rfl, h1, h2, hl, q⟩ := h
  obtain ⟨t, rfl⟩ := rx
  obtain ⟨t', rfl⟩ := ry
  have hs : ∀ z tk, (∃ t, z = Value.str (repS i n) t) → L2.EP X pins σ Q z { s with toks := tk } := fun z tk ⟨t, e⟩ => ⟨.str (repS i n), H, I.tok _, ⟨t, e⟩, q⟩
  have hi : (i.length : Int) * n ≤ 10000000 ∨ n < 1 := by
    by_cases hn : n < 1
    · exact .inr hn
    · refine .inl ?_
      have : ((i.length * n.toNat : Nat) : Int) ≤ 10000000 := Int.ofNat_le.mpr hl
      rw [Int.natCast_mul, Int.toNat_of_nonneg (by omega)] at this
      exact this
  refine PySem.P.mul_str ?_ (fun hn _ hgt => ?_) (fun hn _ => ?_) ?_
  · rw [decide_eq_false (by omega), decide_eq_false (by omega)]
    rfl
  · rcases hi with hi | hi
    · have hb : (i.length : Int) ≤ 10000000 := by
        have : (i.length : Int) * 1 ≤ (i.length : Int) * n := Int.mul_le_mul_of_nonneg_left (by omega) (by omega)
        omega
      have hdiv : (9223372036 : Int) ≤ (2 ^ 63 - 1) / n := by
        refine Int.le_ediv_of_mul_le (by omega) ?_
        have : 9223372036 * n ≤ 9223372036 * 1000000000 := Int.mul_le_mul_of_nonneg_left h2 (by decide)
        omega
      omega
    · exact hn hi
  · show decide (_ > _) = false
    refine decide_eq_false ?_
    have : (10000000 : Nat) ≤ sizeLine := by decide
    omega
  · unfold repS at hs
    by_cases hn : n < 1
    · rw [if_pos hn] at hs ⊢
      exact ⟨by decide, hs _ _ ⟨_, rfl⟩⟩
    · rw [if_neg hn] at hs ⊢
      by_cases hx : (n == 1 || i.length == 0) = true
      · rw [if_pos hx] at hs ⊢
        exact hs _ s.toks ⟨_, rfl⟩
      · rw [if_neg hx] at hs ⊢
        refine ⟨?_, hs _ _ ⟨_, rfl⟩⟩
        show ((List.replicate n.toNat i.cps).foldl (· ++ ·) #[]).size ≤ sizeLine
        rw [foldl_size]
        exact Nat.le_trans (show (#[] : Array Nat).size + i.cps.size * n.toNat ≤ 10000000 by rw [show (#[] : Array Nat).size = 0 from rfl, Nat.zero_add]; exact hl) (by decide)
def uMul : R2 := fun x y H Q => rI CMulW (fun i j => .int (i * j)) x y H Q ∨ (rRepS x y H Q ∨ rRep x y H Q)
theorem uop_mul {X : Cx} : OpR X (binaryOp .Mult) uMul := op_mulW.or (op_repS.or op_rep)
theorem RpL.reps {ω : Wd} {xs : List V} {ds : List Dt} (r : RpL ω xs ds) : ∀ n, RpL ω (List.replicate n xs).flatten (List.replicate n ds).flatten
  | 0 => .nil
  | n + 1 => by
    rw [List.replicate_succ, List.replicate_succ, List.flatten_cons, List.flatten_cons]
    exact r.app (RpL.reps r n)
noncomputable def oMul (a b : Dt) (μ : Mem) : R Dt := match a, b with
  | .int i, .int j => if CMulW i j then .ok (.int (i * j)) μ else .no
  | .str x, .int n => if -1000000000 ≤ n ∧ n ≤ 1000000000 ∧ x.length * n.toNat ≤ 10000000 then .ok (.str (repS x n)) μ else .no
  | a, .int n => match asL μ a with
    | some ds => if -1000000000 ≤ n ∧ n ≤ 1000000000 ∧ ds.length * n.toNat ≤ 1000000 then .ok (.lst (List.replicate n.toNat ds).flatten) μ else .no
    | none => .no
  | _, _ => .no
theorem ro_mul : RO Γ uMul oMul := fun W ω σ μ H x y a b Q hg w ra rb h => by
  unfold oMul at h
  split at h
  · split at h
    · rename_i hc
      cases ra
      cases rb
      exact .inl ⟨_, _, rfl, rfl, hc, h.ok w (.int _)⟩
    · exact h.elim
  · split at h
    · rename_i hc
      cases ra
      cases rb
      exact .inr (.inl ⟨_, _, rfl, rfl, hc.1, hc.2.1, hc.2.2, h.ok w (.str _)⟩)
    · exact h.elim
  · split at h
    · rename_i ds e1
      split at h
      · rename_i hc
        obtain ⟨p, xs, rfl, hx, rx⟩ := asL_ok w ra e1
        cases rb
        exact .inr (.inr ⟨_, _, _, rfl, rfl, hx, by omega, by omega, by rw [rx.len]; exact Nat.le_trans hc.2.2 (by decide), fun p hp => h.new w (rx.reps _) hp⟩)
      · exact h.elim
    · exact h.elim
  · exact h.elim
/-! ### == -/
def toPs (f : Dt → Option PyData) : List Dt → Option (List PyData)
  | [] => some []
  | d :: ds => match f d, toPs f ds with
    | some a, some b => some (a :: b)
    | _, _ => none
def toPM (μ : Mem) : Nat → Dt → Option PyData
  | _, .non => some .none
  | _, .bl b => some (.bool b)
  | _, .int i => some (.int i)
  | _, .str s => some (.str s)
  | n + 1, .lst l => (toPs (toPM μ n) l).map .list
  | n + 1, .tup l => (toPs (toPM μ n) l).map .tuple
  | n + 1, .ktp l => (toPs (toPM μ n) l).map .tuple
  | n + 1, .ptr i => match μ[i]? with
    | some (.lst l) => (toPs (toPM μ n) l).map .list
    | _ => none
  | _, _ => none
theorem toPs_dp {K : PySem.W.Frag} {ω : Wd} {H : Hp} {f : Dt → Option PyData} {n : Nat} (hf : ∀ d p v, f d = some p → Rp ω v d → Dp K H v p ∧ p.plain = true ∧ p.depth ≤ n) : ∀ {l : List Dt} {ps : List PyData} {vs : List V}, toPs f l = some ps → RpL ω vs l → DpAll K H vs ps ∧ PyData.plainAll ps = true ∧ PyData.depthAll ps ≤ n
  | [], _, _, h, .nil => by
    cases h
    exact ⟨.nil, rfl, Nat.zero_le _⟩
  | d :: l, ps, _, h, .cons r rs => by
    unfold toPs at h
    split at h
    · rename_i a b e1 e2
      cases h
      obtain ⟨h1, h2, h3⟩ := hf d a _ e1 r
      obtain ⟨k1, k2, k3⟩ := toPs_dp hf e2 rs
      refine ⟨.cons h1 k1, by rw [PyData.plainAll, h2, k2]; rfl, ?_⟩
      rw [PyData.depthAll]
      exact Nat.max_le.mpr ⟨h3, k3⟩
    · cases h
theorem toPM_dp {K : PySem.W.Frag} {ω : Wd} {μ : Mem} {H : Hp} (hK : ω.Γ.K = K) (w : WR ω μ H) : ∀ (n : Nat) (d : Dt) (p : PyData) (v : V), toPM μ n d = some p → Rp ω v d → Dp K H v p ∧ p.plain = true ∧ p.depth ≤ n
  | n, .non, p, v, h, r => by
    rw [toPM.eq_def] at h
    cases h
    cases r
    exact ⟨.non, rfl, Nat.zero_le _⟩
  | n, .bl b, p, v, h, r => by
    rw [toPM.eq_def] at h
    cases h
    cases r
    exact ⟨.bl b, rfl, Nat.zero_le _⟩
  | n, .int b, p, v, h, r => by
    rw [toPM.eq_def] at h
    cases h
    cases r
    exact ⟨.int b, rfl, Nat.zero_le _⟩
  | n, .str b, p, v, h, r => by
    rw [toPM.eq_def] at h
    cases h
    cases r
    exact ⟨.str b, rfl, Nat.zero_le _⟩
  | n + 1, .lst l, p, v, h, r => by
    rw [toPM] at h
    obtain ⟨ps, e, rfl⟩ := Option.map_eq_some_iff.mp h
    cases r with
    | lst h1 r1 =>
      obtain ⟨k1, k2, k3⟩ := toPs_dp (fun d p v => toPM_dp hK w n d p v) e r1
      exact ⟨.lst (.inl (.inl (w.x _ _ h1))) k1, by rw [PyData.plain]; exact k2, by rw [PyData.depth]; exact Nat.succ_le_succ k3⟩
  | n + 1, .tup l, p, v, h, r => by
    rw [toPM] at h
    obtain ⟨ps, e, rfl⟩ := Option.map_eq_some_iff.mp h
    cases r with
    | tup h1 r1 =>
      obtain ⟨k1, k2, k3⟩ := toPs_dp (fun d p v => toPM_dp hK w n d p v) e r1
      exact ⟨.tup (.inl (.inl (w.x _ _ h1))) k1, by rw [PyData.plain]; exact k2, by rw [PyData.depth]; exact Nat.succ_le_succ k3⟩
  | n + 1, .ktp l, p, v, h, r => by
    rw [toPM] at h
    obtain ⟨ps, e, rfl⟩ := Option.map_eq_some_iff.mp h
    cases r with
    | ktp h1 r1 =>
      obtain ⟨k1, k2, k3⟩ := toPs_dp (fun d p v => toPM_dp hK w n d p v) e r1
      exact ⟨.tup (.inr (hK ▸ h1)) k1, by rw [PyData.plain]; exact k2, by rw [PyData.depth]; exact Nat.succ_le_succ k3⟩
  | n + 1, .ptr i, p, v, h, r => by
    rw [toPM] at h
    split at h
    · rename_i l e0
      obtain ⟨ps, e, rfl⟩ := Option.map_eq_some_iff.mp h
      cases r with
      | ptr h1 =>
        obtain ⟨_, xs, hx, r1⟩ := w.at_ i _ _ h1 e0
        obtain ⟨k1, k2, k3⟩ := toPs_dp (fun d p v => toPM_dp hK w n d p v) e r1
        exact ⟨.lst (.inl (.inl hx)) k1, by rw [PyData.plain]; exact k2, by rw [PyData.depth]; exact Nat.succ_le_succ k3⟩
    · cases h
  | 0, .lst l, p, v, h, r => by rw [toPM.eq_def] at h; cases h
  | 0, .tup l, p, v, h, r => by rw [toPM.eq_def] at h; cases h
  | 0, .ktp l, p, v, h, r => by rw [toPM.eq_def] at h; cases h
  | 0, .ptr l, p, v, h, r => by rw [toPM.eq_def] at h; cases h
  | _, .scr l, p, v, h, r => by rw [toPM.eq_def] at h; cases h
  | _, .ty l, p, v, h, r => by rw [toPM.eq_def] at h; cases h
  | _, .cls l, p, v, h, r => by rw [toPM.eq_def] at h; cases h
  | _, .exc l _ _, p, v, h, r => by rw [toPM.eq_def] at h; cases h
def uEq (K : PySem.W.Frag) : R2 := fun x y H Q => ∃ d e : PyData, Dp K H x d ∧ Dp K H y e ∧ d.plain = true ∧ e.plain = true ∧ d.depth ≤ 8 ∧ Q (.bl (PyData.eqv d e)) H
def uNe (K : PySem.W.Frag) : R2 := fun x y H Q => ∃ d e : PyData, Dp K H x d ∧ Dp K H y e ∧ d.plain = true ∧ e.plain = true ∧ d.depth ≤ 8 ∧ Q (.bl (!PyData.eqv d e)) H
theorem k_eq {X : Cx} {K : PySem.W.Frag} (hK : X.K = K) (hu : X.A.units + 64 < cLine) : OpR X (compareOp .Eq) (uEq K) := by
  subst hK
  intro pins s σ H x y v u Q I rx ry h
  obtain ⟨d, e, hd, he, kd, ke, hl, q⟩ := h
  obtain ⟨as, r1⟩ := Dp.reads I d x v hd rx
  obtain ⟨bs, r2⟩ := Dp.reads I e y u he ry
  refine PySem.SeqAt.eq_plain r1 r2 kd ke ?_ ⟨.bl _, H, I, rfl, q⟩
  omega
theorem k_ne {X : Cx} {K : PySem.W.Frag} (hK : X.K = K) (hu : X.A.units + 64 < cLine) : OpR X (compareOp .NotEq) (uNe K) := by
  subst hK
  intro pins s σ H x y v u Q I rx ry h
  obtain ⟨d, e, hd, he, kd, ke, hl, q⟩ := h
  obtain ⟨as, r1⟩ := Dp.reads I d x v hd rx
  obtain ⟨bs, r2⟩ := Dp.reads I e y u he ry
  refine PySem.SeqAt.ne_plain r1 r2 kd ke ?_ ⟨.bl _, H, I, rfl, q⟩
  omega
def oEq (a b : Dt) (μ : Mem) : R Dt := match toPM μ 8 a, toPM μ 8 b with
  | some p, some q => .ok (.bl (PyData.eqv p q)) μ
  | _, _ => .no
def oNe (a b : Dt) (μ : Mem) : R Dt := match toPM μ 8 a, toPM μ 8 b with
  | some p, some q => .ok (.bl (!PyData.eqv p q)) μ
  | _, _ => .no
theorem ro_eq : RO Γ (uEq Γ.K) oEq := fun W ω σ μ H x y a b Q hg w ra rb h => by
  unfold oEq at h
  split at h
  · rename_i p q e1 e2
    obtain ⟨h1, h2, h3⟩ := toPM_dp (K := Γ.K) (by rw [hg]) w 8 a p x e1 ra
    obtain ⟨k1, k2, k3⟩ := toPM_dp (K := Γ.K) (by rw [hg]) w 8 b q y e2 rb
    exact ⟨p, q, h1, k1, h2, k2, h3, h.ok w (.bl _)⟩
  · exact h.elim
theorem ro_ne : RO Γ (uNe Γ.K) oNe := fun W ω σ μ H x y a b Q hg w ra rb h => by
  unfold oNe at h
  split at h
  · rename_i p q e1 e2
    obtain ⟨h1, h2, h3⟩ := toPM_dp (K := Γ.K) (by rw [hg]) w 8 a p x e1 ra
    obtain ⟨k1, k2, k3⟩ := toPM_dp (K := Γ.K) (by rw [hg]) w 8 b q y e2 rb
    exact ⟨p, q, h1, k1, h2, k2, h3, h.ok w (.bl _)⟩
  · exact h.elim
/-! ### is None, in -/
def isNon : Dt → Bool
  | .non => true
  | _ => false
theorem Rp.isN {ω : Wd} {v : V} {d : Dt} (h : Rp ω v d) : decide (v = .non) = isNon d := by cases h <;> simp [isNon]
def oIsN (a b : Dt) (μ : Mem) : R Dt := match b with
  | .non => .ok (.bl (isNon a)) μ
  | _ => .no
def oNotN (a b : Dt) (μ : Mem) : R Dt := match b with
  | .non => .ok (.bl (!isNon a)) μ
  | _ => .no
theorem ro_isN : RO Γ (fun x y H Q => y = .non ∧ Q (.bl (decide (x = .non))) H) oIsN := fun W ω σ μ H x y a b Q hg w ra rb h => by
  unfold oIsN at h
  split at h
  · cases rb
    exact ⟨rfl, by rw [ra.isN]; exact h.ok w (.bl _)⟩
  · exact h.elim
theorem ro_notN : RO Γ (fun x y H Q => y = .non ∧ Q (.bl (!decide (x = .non))) H) oNotN := fun W ω σ μ H x y a b Q hg w ra rb h => by
  unfold oNotN at h
  split at h
  · cases rb
    exact ⟨rfl, by rw [ra.isN]; exact h.ok w (.bl _)⟩
  · exact h.elim
def flatD : Dt → Bool
  | .non => true
  | .bl _ => true
  | .int _ => true
  | .str _ => true
  | _ => false
def eqF : Dt → Dt → Bool
  | .non, .non => true
  | .bl a, .bl b => a == b
  | .bl a, .int b => (if a then 1 else 0) == b
  | .int a, .bl b => a == (if b then 1 else 0)
  | .int a, .int b => a == b
  | .str a, .str b => a == b
  | _, _ => false
theorem Rp.flat {ω : Wd} {v : V} {d : Dt} (h : Rp ω v d) : flatD d = true → flatV v = true := by cases h <;> simp [flatD, flatV]
theorem Rp.eqF {ω : Wd} {v u : V} {d e : Dt} (h : Rp ω v d) (k : Rp ω u e) (fd : flatD d = true) (fe : flatD e = true) : eqV v u = DM.eqF d e := by
  cases h <;> cases k <;> first | rfl | (exact absurd fd Bool.false_ne_true) | (exact absurd fe Bool.false_ne_true)
theorem RpL.flat {ω : Wd} : ∀ {vs : List V} {ds : List Dt}, RpL ω vs ds → ds.all flatD = true → vs.all flatV = true
  | _, _, .nil, _ => rfl
  | _, _, .cons a r, h => by
    rw [List.all_cons, Bool.and_eq_true] at h
    rw [List.all_cons, a.flat h.1, r.flat h.2]
    rfl
theorem RpL.inV {ω : Wd} {v : V} {d : Dt} (h : Rp ω v d) (fd : flatD d = true) : ∀ {vs : List V} {ds : List Dt}, RpL ω vs ds → ds.all flatD = true → inV v vs = ds.any fun e => DM.eqF e d
  | _, _, .nil, _ => rfl
  | _, _, .cons a r, k => by
    rw [List.all_cons, Bool.and_eq_true] at k
    have := RpL.inV h fd r k.2
    unfold L2.inV at this ⊢
    rw [List.any_cons, List.any_cons, a.eqF h k.1 fd, this]
def asS (μ : Mem) : Dt → Option (List Dt)
  | .tup ds => some ds
  | d => asL μ d
theorem asS_ok {K : PySem.W.Frag} {ω : Wd} {μ : Mem} {H : Hp} {x : V} {d : Dt} {ds : List Dt} (w : WR ω μ H) (r : Rp ω x d) (h : asS μ d = some ds) : ∃ a xs, x = .ref a ∧ (SqL K H a xs ∨ SqT K H a xs) ∧ RpL ω xs ds := by
  cases r with
  | tup h1 r1 =>
    cases h
    exact ⟨_, _, rfl, .inr (.inl (.inl (w.x _ _ h1))), r1⟩
  | lst h1 r1 =>
    obtain ⟨a, xs, e, hx, r⟩ := asL_ok w (.lst h1 r1) h
    exact ⟨a, xs, e, .inl (.inl (.inl hx)), r⟩
  | ptr h1 =>
    obtain ⟨a, xs, e, hx, r⟩ := asL_ok w (.ptr h1) h
    exact ⟨a, xs, e, .inl (.inl (.inl hx)), r⟩
  | _ => cases h
def rInSg (neg : Bool) : R2 := fun x y H Q => ∃ (c : Nat) (z : Str), x = .str ⟨#[c]⟩ ∧ y = .str z ∧ Q (.bl (if neg then !decide (c ∈ z.cps.toList) else decide (c ∈ z.cps.toList))) H
def uIn (K : PySem.W.Frag) (neg : Bool) : R2 := fun x y H Q => rIn K neg x y H Q ∨ rInSg neg x y H Q
theorem k_in {X : Cx} {K : PySem.W.Frag} (hK : X.K = K) : OpR X (compareOp .In) (uIn K false) := by
  subst hK
  exact op_in_seq.or (show OpR X (compareOp .In) (rInSg false) from op_in_sign)
theorem k_notIn {X : Cx} {K : PySem.W.Frag} (hK : X.K = K) : OpR X (compareOp .NotIn) (uIn K true) := by
  subst hK
  exact op_notIn_seq.or (show OpR X (compareOp .NotIn) (rInSg true) from op_notIn_sign)
def oIn (neg : Bool) (a b : Dt) (μ : Mem) : R Dt := match a, b with
  | .str x, .str z => if x.cps.size = 1 then .ok (.bl (if neg then !decide (x.cps.getD 0 0 ∈ z.cps.toList) else decide (x.cps.getD 0 0 ∈ z.cps.toList))) μ else .no
  | a, b => match asS μ b with
    | some ds => if flatD a = true ∧ ds.all flatD = true then .ok (.bl (if neg then !(ds.any fun e => eqF e a) else ds.any fun e => eqF e a)) μ else .no
    | none => .no
theorem ro_in {K : PySem.W.Frag} {neg : Bool} : RO Γ (uIn K neg) (oIn neg) := fun W ω σ μ H x y a b Q hg w ra rb h => by
  unfold oIn at h
  split at h
  · split at h
    · rename_i x' z hs
      cases ra
      cases rb
      refine .inr ⟨x'.cps.getD 0 0, z, ?_, rfl, h.ok w (.bl _)⟩
      obtain ⟨⟨l⟩⟩ := x'
      match l, hs with
      | [c], _ => rfl
    · exact h.elim
  · split at h
    · rename_i ds e
      split at h
      · rename_i hf
        obtain ⟨p, xs, rfl, hq, r⟩ := asS_ok (K := K) w rb e
        refine .inl ⟨p, xs, rfl, hq, ra.flat hf.1, r.flat hf.2, ?_⟩
        rw [r.inV ra hf.1 hf.2]
        exact h.ok w (.bl _)
      · exact h.elim
    · exact h.elim
/-! ### places and parts -/
theorem RpL.atI {ω : Wd} {vs : List V} {ds : List Dt} {i : Int} {d : Dt} (r : RpL ω vs ds) (h : L2.atI ds i = some d) : ∃ v, L2.atI vs i = some v ∧ Rp ω v d := by
  unfold L2.atI at h ⊢
  rw [r.len]
  cases e : ixN ds.length i with
  | none => rw [e] at h; cases h
  | some j =>
    rw [e] at h
    exact r.get h
theorem scr_ok {ω : Wd} {μ : Mem} {H : Hp} {v : V} {ds : List Dt} (hg : ω.Γ = Γ) (w : WR ω μ H) (r : Rp ω v (.scr ds)) : ∃ a xs, v = .ref a ∧ SqL Γ.K H a xs ∧ RpL ω xs ds := by
  subst hg
  cases r with
  | scr h r =>
    refine ⟨_, _, rfl, ?_, r⟩
    rcases h with ⟨o, h | h⟩ | h
    · exact .inl (.inl (w.x _ _ h))
    · exact .inl (.inr ⟨o, w.x _ _ h⟩)
    · exact .inr h
def oIx (a b : Dt) (μ : Mem) : R Dt := match a, b with
  | .scr ds, .int i => (match L2.atI ds i with
    | some d => .ok d μ
    | none => .no)
  | .str z, .int i => if z.length ≤ 10000000 then (match L2.atI z.cps.toList i with
    | some c => .ok (.str ⟨#[c]⟩) μ
    | none => .no) else .no
  | a, .int i => match asS μ a with
    | some ds => (match L2.atI ds i with
      | some d => .ok d μ
      | none => .no)
    | none => .no
  | _, _ => .no
theorem ro_ix : RO Γ (rIx Γ.K) oIx := fun W ω σ μ H x y a b Q hg w ra rb h => by
  unfold oIx at h
  split at h
  · split at h
    · rename_i d e2
      obtain ⟨p, xs, rfl, hq, r⟩ := scr_ok hg w ra
      cases rb
      obtain ⟨v, hv, rv⟩ := r.atI e2
      exact .inl ⟨_, _, _, v, rfl, rfl, hq, hv, h.ok w rv⟩
    · exact h.elim
  · split at h
    · rename_i hz
      split at h
      · rename_i c e
        cases ra
        cases rb
        exact .inr (.inr ⟨_, _, c, rfl, rfl, Nat.le_trans hz (by decide), e, h.ok w (.str _)⟩)
      · exact h.elim
    · exact h.elim
  · split at h
    · rename_i ds e
      split at h
      · rename_i d e2
        obtain ⟨p, xs, rfl, hq, r⟩ := asS_ok (K := Γ.K) w ra e
        cases rb
        obtain ⟨v, hv, rv⟩ := r.atI e2
        rcases hq with hq | hq
        · exact .inl ⟨_, _, _, v, rfl, rfl, hq, hv, h.ok w rv⟩
        · exact .inr (.inl ⟨_, _, _, v, rfl, rfl, hq, hv, h.ok w rv⟩)
      · exact h.elim
    · exact h.elim
  · exact h.elim
def cutD {α : Type} (xs : List α) (lo hi : Option Int) : List α := (xs.drop (HT.sIx xs.length 0 lo)).take (HT.sIx xs.length xs.length hi - HT.sIx xs.length 0 lo)
theorem RpL.cut {ω : Wd} {vs : List V} {ds : List Dt} {lo hi : Option Int} (r : RpL ω vs ds) : RpL ω (cutV vs lo hi) (cutD ds lo hi) := by
  unfold cutV cutD
  rw [r.len]
  exact (r.drop _).take _
def uSl (K : PySem.W.Frag) : V → Option Int → Option Int → Hp → VK → Prop := fun x lo hi H Q => rSlL K x lo hi H Q ∨ rSlS x lo hi H Q
theorem k_sl {X : Cx} {K : PySem.W.Frag} (hK : X.K = K) : SlR X (uSl K) := by
  subst hK
  exact sl_list.or sl_str
def oSl (a : Dt) (lo hi : Option Int) (μ : Mem) : R Dt := match a with
  | .str z => if z.length ≤ 10000000 then .ok (.str (cutS z lo hi)) μ else .no
  | a => match asL μ a with
    | some ds => .ok (.lst (cutD ds lo hi)) μ
    | none => .no
theorem rs_sl {K : PySem.W.Frag} : RSl (uSl K) oSl := fun W ω σ μ H x a lo hi Q w ra h => by
  unfold oSl at h
  split at h
  · split at h
    · rename_i hz
      cases ra
      exact .inr ⟨_, rfl, Nat.le_trans hz (by decide), h.ok w (.str _)⟩
    · exact h.elim
  · split at h
    · rename_i ds e
      obtain ⟨p, xs, rfl, hx, r⟩ := asL_ok w ra e
      exact .inl ⟨_, _, rfl, .inl (.inl hx), fun p hp => h.new w r.cut hp⟩
    · exact h.elim
end DM

set_option linter.all false
set_option maxRecDepth 100000
set_option maxHeartbeats 4000000
/-! DM4: what is walked, tuples as targets, built-ins and methods, kept errors. -/
namespace DM
open PySem PySem.Spec PyProof.Rows L2
open Classical
/-! ### what is walked -/
def srcL (d : Dt) (μ : Mem) : R Src := match d with
  | .lst ds => .ok (ds, none) μ
  | .ptr i => match μ[i]? with
    | some (.lst ds) => .ok (ds, some (i, .lst ds)) μ
    | _ => .no
  | _ => .no
def miList (a : MX) : MI := fun δ μ => (a δ μ).bind srcL
def srcT (d : Dt) (μ : Mem) : R Src := match d with
  | .tup ds => .ok (ds, none) μ
  | _ => .no
def miTup (a : MX) : MI := fun δ μ => (a δ μ).bind srcT
def signsD (z : Str) : List Dt := z.cps.toList.map fun c => Dt.str ⟨#[c]⟩
def srcS (d : Dt) (μ : Mem) : R Src := match d with
  | .str z => .ok (signsD z, none) μ
  | _ => .no
def miStr (a : MX) : MI := fun δ μ => (a δ μ).bind srcS
def rngD (lo : Int) (n : Nat) : List Dt := (List.range n).map fun (i : Nat) => Dt.int (lo + (i : Int))
def srcR1 (ds : List Dt) (μ : Mem) : R Src := match ds with
  | [.int n] => if -1000000000 ≤ n ∧ n ≤ 1000000000 then .ok (rngD 0 n.toNat, none) μ else .no
  | _ => .no
def miRng1 (a : MA) : MI := fun δ μ => (a δ μ).bind srcR1
def srcR2 (ds : List Dt) (μ : Mem) : R Src := match ds with
  | [.int m, .int n] => if -1000000000 ≤ n ∧ n ≤ 1000000000 ∧ -1000000000 ≤ m ∧ m ≤ 1000000000 then .ok (rngD m (n - m).toNat, none) μ else .no
  | _ => .no
def miRng2 (a : MA) : MI := fun δ μ => (a δ μ).bind srcR2
def zipD (ds es : List Dt) : List Dt := (ds.zip es).map fun p => .tup [p.1, p.2]
def srcZ (ds : List Dt) (μ : Mem) : R Src := match ds with
  | [a, b] => match a, b with
    | .lst ds, .lst es => .ok (zipD ds es, none) μ
    | .lst ds, .ptr i => match μ[i]? with
      | some (.lst es) => .ok (zipD ds es, some (i, .lst es)) μ
      | _ => .no
    | _, _ => .no
  | _ => .no
def miZip (a : MA) : MI := fun δ μ => (a δ μ).bind srcZ
def enumD (ds : List Dt) : List Dt := (List.range ds.length).map fun (i : Nat) => .tup [.int (i : Int), ds.getD i .non]
def srcE (ds : List Dt) (μ : Mem) : R Src := match ds with
  | [.lst ds] => .ok (enumD ds, none) μ
  | _ => .no
def miEnum (a : MA) : MI := fun δ μ => (a δ μ).bind srcE
section
variable {Γ : Gm} {W : WX} {K : PySem.W.Frag} {ta : TE} {ma : MX} {ts : TA} {ms : MA} {ω : Wd} {ds es : List Dt}
theorem yi_list {p : Addr} {gd : Option (Nat × MO)} (h : ∀ ω1 μ1 H1, Le0 ω ω1 → WR ω1 μ1 H1 → okG gd μ1 → ∃ xs, H1 p = some (.lst xs) ∧ RpL ω1 xs ds) : YI (Itl K p) ω (ds, gd) := fun i ω1 μ1 H1 l w g => by
  obtain ⟨xs, hx, r⟩ := h ω1 μ1 H1 l w g
  have h1 : SqL K H1 p xs := .inl (.inl hx)
  refine ⟨fun hi => ⟨xs, h1, by rw [r.len]; exact hi⟩, fun d hd => ?_⟩
  obtain ⟨v, hv, rv⟩ := r.get hd
  refine ⟨⟨xs, v, h1, hv⟩, fun x H2 hy => ?_⟩
  obtain ⟨rfl, hx2⟩ := hy
  have ex := hx2 xs h1
  rw [hv] at ex
  cases ex
  exact ⟨ω1, Le.refl _, w, rv⟩
theorem iv_list (ha : EV Γ W ta ma) : IV Γ W (iList K ta) (miList ma) := fun σ H Q ⟨ω, δ, μ, hg, he, hw, h⟩ =>
  ha σ H _ ⟨ω, δ, μ, hg, he, hw, GoE.split (f := srcL) h fun a μ1 x ω1 H1 l1 w1 r1 h1 => by
    unfold srcL at h1
    cases r1 with
    | lst hb r => exact ⟨_, rfl, ⟨_, .inl (.inl (w1.x _ _ hb))⟩, h1 _ ω1 H1 (Le.refl _) w1 (yi_list fun ω2 μ2 H2 l w g => ⟨_, w.x _ _ (l.b _ _ hb), r.mono0 l⟩)⟩
    | ptr hb =>
      rename_i i p
      dsimp only at h1
      split at h1
      · rename_i ds e
        obtain ⟨_, xs, hx, r⟩ := w1.at_ i p _ hb e
        refine ⟨_, rfl, ⟨_, .inl (.inl hx)⟩, h1 _ ω1 H1 (Le.refl _) w1 (yi_list fun ω2 μ2 H2 l w g => ?_)⟩
        obtain ⟨_, xs2, hx2, r2⟩ := w.at_ i p _ (l.a _ _ hb) (g _ _ rfl)
        exact ⟨xs2, hx2, r2⟩
      · exact h1.elim
    | _ => exact h1.elim⟩
theorem iv_tup (ha : EV Γ W ta ma) : IV Γ W (iTup K ta) (miTup ma) := fun σ H Q ⟨ω, δ, μ, hg, he, hw, h⟩ =>
  ha σ H _ ⟨ω, δ, μ, hg, he, hw, GoE.split (f := srcT) h fun a μ1 x ω1 H1 l1 w1 r1 h1 => by
    unfold srcT at h1
    cases r1 with
    | tup hb r =>
      refine ⟨_, rfl, ⟨_, .inl (.inl (w1.x _ _ hb))⟩, h1 _ ω1 H1 (Le.refl _) w1 fun i ω2 μ2 H2 l w g => ?_⟩
      have h1 : SqT K H2 _ _ := .inl (.inl (w.x _ _ (l.b _ _ hb)))
      have r := r.mono0 l
      refine ⟨fun hi => ⟨_, h1, by rw [r.len]; exact hi⟩, fun d hd => ?_⟩
      obtain ⟨v, hv, rv⟩ := r.get hd
      refine ⟨⟨_, v, h1, hv⟩, fun x H2 hy => ?_⟩
      obtain ⟨rfl, hx2⟩ := hy
      have ex := hx2 _ h1
      rw [hv] at ex
      cases ex
      exact ⟨ω2, Le.refl _, w, rv⟩
    | _ => exact h1.elim⟩
theorem iv_str (ha : EV Γ W ta ma) : IV Γ W (iStr ta) (miStr ma) := fun σ H Q ⟨ω, δ, μ, hg, he, hw, h⟩ =>
  ha σ H _ ⟨ω, δ, μ, hg, he, hw, GoE.split (f := srcS) h fun a μ1 x ω1 H1 l1 w1 r1 h1 => by
    unfold srcS at h1
    cases r1 with
    | str z =>
      refine ⟨z, rfl, h1 _ ω1 H1 (Le.refl _) w1 fun i ω2 μ2 H2 l w g => ⟨fun hi => ?_, fun d hd => ?_⟩⟩
      · show z.cps.size ≤ i
        simpa [signsD] using hi
      · have hd : (signsD z)[i]? = some d := hd
        unfold signsD at hd
        rw [List.getElem?_map] at hd
        cases e : z.cps.toList[i]? with
        | none => rw [e] at hd; cases hd
        | some c =>
          rw [e] at hd
          cases hd
          have hc : z.cps[i]? = some c := by rw [← Array.getElem?_toList]; exact e
          refine ⟨(Array.getElem?_eq_some_iff.mp hc).1, fun x H2' hy => ?_⟩
          obtain ⟨rfl, c', hc', rfl⟩ := hy
          rw [hc] at hc'
          cases hc'
          exact ⟨ω2, Le.refl _, w, .str _⟩
    | _ => exact h1.elim⟩
theorem yi_rng (lo : Int) (n : Nat) : YI (Itr lo n) ω (rngD lo n, none) := fun i ω1 μ1 H1 l w g => ⟨fun hi => by
    show n ≤ i
    simpa [rngD] using hi, fun d hd => by
    have hd : (rngD lo n)[i]? = some d := hd
    unfold rngD at hd
    rw [List.getElem?_map] at hd
    cases e : (List.range n)[i]? with
    | none => rw [e] at hd; cases hd
    | some c =>
      rw [e] at hd
      cases hd
      have hi : i < n := by
        have := (List.getElem?_eq_some_iff.mp e).1
        simpa using this
      have hc : c = i := by
        have := (List.getElem?_eq_some_iff.mp e).2
        simpa using this.symm
      subst hc
      refine ⟨hi, fun x H2' hy => ?_⟩
      obtain ⟨rfl, rfl⟩ := hy
      exact ⟨ω1, Le.refl _, w, .int _⟩⟩
theorem iv_rng1 (ha : AV Γ W ts ms) : IV Γ W (iRng1 ts) (miRng1 ms) := fun σ H Q ⟨ω, δ, μ, hg, he, hw, h⟩ =>
  ha σ H _ ⟨ω, δ, μ, hg, he, hw, GoE.split (f := srcR1) h fun a μ1 x ω1 H1 l1 w1 r1 h1 => by
    unfold srcR1 at h1
    split at h1
    · split at h1
      · rename_i n hn
        obtain ⟨v, rfl, rv⟩ := r1.one
        cases rv
        exact ⟨n, rfl, by omega, by omega, h1 _ ω1 H1 (Le.refl _) w1 (yi_rng 0 n.toNat)⟩
      · exact h1.elim
    · exact h1.elim⟩
theorem iv_rng2 (ha : AV Γ W ts ms) : IV Γ W (iRng2 ts) (miRng2 ms) := fun σ H Q ⟨ω, δ, μ, hg, he, hw, h⟩ =>
  ha σ H _ ⟨ω, δ, μ, hg, he, hw, GoE.split (f := srcR2) h fun a μ1 x ω1 H1 l1 w1 r1 h1 => by
    unfold srcR2 at h1
    split at h1
    · split at h1
      · rename_i m n hn
        obtain ⟨v, u, rfl, rv, ru⟩ := r1.two
        cases rv
        cases ru
        exact ⟨m, n, rfl, ⟨by omega, by omega, by omega, by omega⟩, h1 _ ω1 H1 (Le.refl _) w1 (yi_rng m _)⟩
      · exact h1.elim
    · exact h1.elim⟩
theorem yi_zip {p q : Addr} {gd : Option (Nat × MO)} (h : ∀ ω1 μ1 H1, Le0 ω ω1 → WR ω1 μ1 H1 → okG gd μ1 → ∃ xs ys, H1 p = some (.lst xs) ∧ RpL ω1 xs ds ∧ H1 q = some (.lst ys) ∧ RpL ω1 ys es) : YI (Itz K p q) ω (zipD ds es, gd) := fun i ω1 μ1 H1 l w g => by
  obtain ⟨xs, ys, hx, rx, hy, ry⟩ := h ω1 μ1 H1 l w g
  have h1 : SqL K H1 p xs := .inl (.inl hx)
  have h2 : SqL K H1 q ys := .inl (.inl hy)
  refine ⟨fun hi => ⟨xs, ys, h1, h2, ?_⟩, fun d hd => ?_⟩
  · have hi : (zipD ds es).length ≤ i := hi
    unfold zipD at hi
    rw [List.length_map, List.length_zip] at hi
    rw [rx.len, ry.len]
    omega
  · have hd : (zipD ds es)[i]? = some d := hd
    unfold zipD at hd
    rw [List.getElem?_map] at hd
    obtain ⟨z, hz, rfl⟩ := Option.map_eq_some_iff.mp hd
    obtain ⟨z1, z2⟩ := List.getElem?_zip_eq_some.mp hz
    obtain ⟨v, hv, rv⟩ := rx.get z1
    obtain ⟨u, hu, ru⟩ := ry.get z2
    refine ⟨⟨xs, ys, v, u, h1, h2, hv, hu⟩, fun x H2 hyl => ?_⟩
    obtain ⟨T, x', y', rfl, hT, rfl, q1, q2⟩ := hyl
    have e1 := q1 xs h1
    have e2 := q2 ys h2
    rw [hv] at e1
    rw [hu] at e2
    cases e1
    cases e2
    obtain ⟨l2, w2⟩ := w.newB (u := .tup [v, u]) hT
    exact ⟨_, l2, w2, .tup upd_same (.cons (rv.mono l2) (.cons (ru.mono l2) .nil))⟩
theorem iv_zip (ha : AV Γ W ts ms) : IV Γ W (iZip K ts) (miZip ms) := fun σ H Q ⟨ω, δ, μ, hg, he, hw, h⟩ =>
  ha σ H _ ⟨ω, δ, μ, hg, he, hw, GoE.split (f := srcZ) h fun a μ1 x ω1 H1 l1 w1 r1 h1 => by
    unfold srcZ at h1
    split at h1
    · obtain ⟨v, u, rfl, rv, ru⟩ := r1.two
      split at h1
      · cases rv with
        | lst hb r =>
          cases ru with
          | lst hb2 r2 => exact ⟨_, _, _, _, rfl, .inl (.inl (w1.x _ _ hb)), .inl (.inl (w1.x _ _ hb2)), h1 _ ω1 H1 (Le.refl _) w1 (yi_zip fun ω2 μ2 H2 l w g => ⟨_, _, w.x _ _ (l.b _ _ hb), r.mono0 l, w.x _ _ (l.b _ _ hb2), r2.mono0 l⟩)⟩
      · split at h1
        · rename_i es e
          cases rv with
          | lst hb r =>
            cases ru with
            | ptr hb2 =>
              obtain ⟨_, ys, hy, ry⟩ := w1.at_ _ _ _ hb2 e
              refine ⟨_, _, _, _, rfl, .inl (.inl (w1.x _ _ hb)), .inl (.inl hy), h1 _ ω1 H1 (Le.refl _) w1 (yi_zip fun ω2 μ2 H2 l w g => ?_)⟩
              obtain ⟨_, ys2, hy2, ry2⟩ := w.at_ _ _ _ (l.a _ _ hb2) (g _ _ rfl)
              exact ⟨_, ys2, w.x _ _ (l.b _ _ hb), r.mono0 l, hy2, ry2⟩
        · exact h1.elim
      · exact h1.elim
    · exact h1.elim⟩
theorem iv_enum (ha : AV Γ W ts ms) : IV Γ W (iEnum K ts) (miEnum ms) := fun σ H Q ⟨ω, δ, μ, hg, he, hw, h⟩ =>
  ha σ H _ ⟨ω, δ, μ, hg, he, hw, GoE.split (f := srcE) h fun a μ1 x ω1 H1 l1 w1 r1 h1 => by
    unfold srcE at h1
    split at h1
    · rename_i ds
      obtain ⟨v, rfl, rv⟩ := r1.one
      cases rv with
      | lst hb r =>
        refine ⟨_, _, rfl, .inl (.inl (w1.x _ _ hb)), h1 _ ω1 H1 (Le.refl _) w1 fun i ω2 μ2 H2 l w g => ?_⟩
        have h1 : SqL K H2 _ _ := .inl (.inl (w.x _ _ (l.b _ _ hb)))
        have r := r.mono0 l
        refine ⟨fun hi => ⟨_, h1, by
          have hi : (enumD ds).length ≤ i := hi
          rw [r.len]
          simpa [enumD] using hi⟩, fun d hd => ?_⟩
        have hd : (enumD ds)[i]? = some d := hd
        unfold enumD at hd
        rw [List.getElem?_map] at hd
        obtain ⟨j, hj, rfl⟩ := Option.map_eq_some_iff.mp hd
        obtain ⟨hi, hj⟩ := List.getElem?_eq_some_iff.mp hj
        rw [List.getElem_range] at hj
        subst hj
        rw [List.length_range] at hi
        have hdi : ds[i]? = some (ds.getD i .non) := by
          rw [List.getD_eq_getElem?_getD, List.getElem?_eq_getElem hi]
          rfl
        obtain ⟨v, hv, rv⟩ := r.get hdi
        refine ⟨⟨_, v, h1, hv⟩, fun x H3 hyl => ?_⟩
        obtain ⟨T, x', rfl, hT, rfl, q1⟩ := hyl
        have e1 := q1 _ h1
        rw [hv] at e1
        cases e1
        obtain ⟨l2, w2⟩ := w.newB (u := .tup [.int (i : Nat), v]) hT
        exact ⟨_, l2, w2, .tup upd_same (.cons (.int _) (.cons (rv.mono l2) .nil))⟩
    · exact h1.elim⟩
/-! ### tuples as targets -/
def gsNil : List Dt → Env → Mem → Option Env := fun ds δ _ => match ds with
  | [] => some δ
  | _ => none
def gsCons (g : MG) (gs : List Dt → Env → Mem → Option Env) : List Dt → Env → Mem → Option Env := fun ds δ μ => match ds with
  | d :: ds => (g d δ μ).bind fun δ' => gs ds δ' μ
  | [] => none
def gTupM (n : Nat) (gs : List Dt → Env → Mem → Option Env) : MG := fun d δ μ => match d with
  | .tup ds => if ds.length = n then gs ds δ μ else none
  | _ => none
def gLstM (n : Nat) (gs : List Dt → Env → Mem → Option Env) : MG := fun d δ μ => match asL μ d with
  | some ds => if ds.length = n then gs ds δ μ else none
  | none => none
def GVs (t : TGs) (g : List Dt → Env → Mem → Option Env) : Prop := ∀ ω μ H xs ds σ δ δ' Q, WR ω μ H → RpL ω xs ds → EnvR ω σ δ → g ds δ μ = some δ' → (∀ σ' ω' H', Le ω ω' → WR ω' μ H' → EnvR ω' σ' δ' → Q σ' H') → t xs σ H Q
theorem gvs_nil : GVs gNil gsNil := fun ω μ H xs ds σ δ δ' Q w r e h q => by
  unfold gsNil at h
  split at h
  · cases h
    cases r
    exact ⟨rfl, q _ ω H (Le.refl _) w e⟩
  · cases h
theorem gvs_cons {t : TG} {g : MG} {tr : TGs} {gr : List Dt → Env → Mem → Option Env} (h1 : GV t g) (h2 : GVs tr gr) : GVs (gCons t tr) (gsCons g gr) := fun ω μ H xs ds σ δ δ' Q w r e h q => by
  unfold gsCons at h
  split at h
  · obtain ⟨δ1, e1, e2⟩ := Option.bind_eq_some_iff.mp h
    cases r with
    | cons a rr => exact ⟨_, _, rfl, h1 ω μ H _ _ σ δ δ1 _ w a e e1 fun σ' ω' H' l w' e' => h2 ω' μ H' _ _ σ' δ1 δ' Q w' (rr.mono l) e' e2 fun σ2 ω2 H2 l2 => q σ2 ω2 H2 (l.trans l2)⟩
  · cases h
theorem gv_tup {n : Nat} {t : TGs} {g : List Dt → Env → Mem → Option Env} (h1 : GVs t g) : GV (gTup K n t) (gTupM n g) := fun ω μ H x a σ δ δ' Q w r e h q => by
  unfold gTupM at h
  split at h
  · split at h
    · rename_i ds hl
      cases r with
      | tup hb rr => exact ⟨_, _, rfl, .inl (.inl (w.x _ _ hb)), by rw [rr.len]; exact hl, h1 ω μ H _ _ σ δ δ' Q w rr e h q⟩
    · cases h
  · cases h
theorem gv_unl {n : Nat} {t : TGs} {g : List Dt → Env → Mem → Option Env} (h1 : GVs t g) : GV (gUnl K n t) (gLstM n g) := fun ω μ H x a σ δ δ' Q w r e h q => by
  unfold gLstM at h
  split at h
  · split at h
    · rename_i ds ee hl
      obtain ⟨p, xs, rfl, hx, rr⟩ := asL_ok w r ee
      exact ⟨_, _, rfl, .inl (.inl hx), by rw [rr.len]; exact hl, h1 ω μ H _ _ σ δ δ' Q w rr e h q⟩
    · cases h
  · cases h
def GLs (t : TGs) (vs : List Nat) : Prop := ∀ xs σ H Q, t xs σ H Q → t xs σ H fun σ2 H2 => wipe σ2 vs = wipe σ vs ∧ Q σ2 H2
theorem gls_nil {vs : List Nat} : GLs gNil vs := fun xs σ H Q ⟨h, q⟩ => ⟨h, rfl, q⟩
theorem gls_name {i : Nat} {tr : TGs} {vs : List Nat} (h : i ∈ vs) (h2 : GLs tr vs) : GLs (gCons (gName i) tr) vs := fun xs σ H Q ⟨v, r, e, q⟩ => ⟨v, r, e, by
  have z := h2 r (σ.set i (some v)) H Q q
  rw [wipe_set h] at z
  exact z⟩
theorem gl_tup {n : Nat} {t : TGs} {vs : List Nat} (h : GLs t vs) : GL (gTup K n t) vs := fun x σ H Q ⟨a, xs, e, hq, hl, q⟩ => ⟨a, xs, e, hq, hl, h xs σ H Q q⟩
theorem gl_unl {n : Nat} {t : TGs} {vs : List Nat} (h : GLs t vs) : GL (gUnl K n t) vs := fun x σ H Q ⟨a, xs, e, hq, hl, q⟩ => ⟨a, xs, e, hq, hl, h xs σ H Q q⟩
/-! ### built-ins -/
def rLen (K : PySem.W.Frag) : List V → Hp → VK → Prop := fun xs H Q => ∃ x n, xs = [x] ∧ LenV K x H n ∧ Q (.int n) H
theorem k_len {X : Cx} (hK : X.K = K) : CallR X (.builtin "len") (rLen K) := hK ▸ call_len
def cLen (ds : List Dt) (μ : Mem) : R Dt := match ds with
  | [.scr es] => .ok (.int es.length) μ
  | [.str z] => if z.length ≤ 10000000 then .ok (.int z.length) μ else .no
  | [d] => match asS μ d with
    | some es => .ok (.int es.length) μ
    | none => .no
  | _ => .no
theorem rc_len : RC Γ (rLen Γ.K) cLen := fun W ω σ μ H xs ds Q hg w r h => by
  unfold cLen at h
  split at h
  · obtain ⟨v, rfl, rv⟩ := r.one
    obtain ⟨p, ys, rfl, hq, rr⟩ := scr_ok hg w rv
    exact ⟨_, _, rfl, .inl ⟨_, hq, rr.len.symm⟩, h.ok w (.int _)⟩
  · split at h
    · rename_i z hz
      obtain ⟨v, rfl, rv⟩ := r.one
      cases rv
      exact ⟨_, _, rfl, ⟨Nat.le_trans hz (by decide), rfl⟩, h.ok w (.int _)⟩
    · exact h.elim
  · obtain ⟨v, rfl, rv⟩ := r.one
    split at h
    · rename_i es e
      obtain ⟨p, ys, rfl, hq, rr⟩ := asS_ok (K := Γ.K) w rv e
      rcases hq with hq | hq
      · exact ⟨_, _, rfl, .inl ⟨_, hq, rr.len.symm⟩, h.ok w (.int _)⟩
      · exact ⟨_, _, rfl, .inr ⟨_, hq, rr.len.symm⟩, h.ok w (.int _)⟩
    · exact h.elim
  · exact h.elim
def asB : List Dt → Option (List Bool)
  | [] => some []
  | .bl b :: ds => (asB ds).map (b :: ·)
  | _ => none
theorem asB_eq : ∀ {ds : List Dt} {bs : List Bool}, asB ds = some bs → ds = bs.map Dt.bl
  | [], bs, h => by cases h; rfl
  | d :: ds, bs, h => by
    cases d with
    | bl b =>
      obtain ⟨cs, e, rfl⟩ := Option.map_eq_some_iff.mp (show (asB ds).map (b :: ·) = some bs from h)
      rw [asB_eq e]
      rfl
    | _ => cases h
theorem asB_map (bs : List Bool) : asB (bs.map Dt.bl) = some bs := by
  induction bs with
  | nil => rfl
  | cons b bs ih =>
    show (asB (bs.map Dt.bl)).map (b :: ·) = _
    rw [ih]
    rfl
def cAll (ds : List Dt) (μ : Mem) : R Dt := match ds with
  | [d] => match (asL μ d).bind asB with
    | some bs => .ok (.bl (bs.all id)) μ
    | none => .no
  | _ => .no
def cAny (ds : List Dt) (μ : Mem) : R Dt := match ds with
  | [d] => match (asL μ d).bind asB with
    | some bs => .ok (.bl (bs.any id)) μ
    | none => .no
  | _ => .no
theorem rc_all : RC Γ (rAll K) cAll := fun W ω σ μ H xs ds Q hg w r h => by
  unfold cAll at h
  split at h
  · obtain ⟨v, rfl, rv⟩ := r.one
    split at h
    · rename_i bs e
      obtain ⟨es, e1, e2⟩ := Option.bind_eq_some_iff.mp e
      obtain ⟨p, ys, rfl, hq, rr⟩ := asL_ok w rv e1
      rw [asB_eq e2] at rr
      have := rr.of_bls
      subst this
      exact ⟨_, bs, rfl, .inl (.inl hq), h.ok w (.bl _)⟩
    · exact h.elim
  · exact h.elim
theorem rc_any : RC Γ (rAny K) cAny := fun W ω σ μ H xs ds Q hg w r h => by
  unfold cAny at h
  split at h
  · obtain ⟨v, rfl, rv⟩ := r.one
    split at h
    · rename_i bs e
      obtain ⟨es, e1, e2⟩ := Option.bind_eq_some_iff.mp e
      obtain ⟨p, ys, rfl, hq, rr⟩ := asL_ok w rv e1
      rw [asB_eq e2] at rr
      have := rr.of_bls
      subst this
      exact ⟨_, bs, rfl, .inl (.inl hq), h.ok w (.bl _)⟩
    · exact h.elim
  · exact h.elim
theorem k_all {X : Cx} (hK : X.K = K) (hc : X.calm = true) : CallR X (.builtin "all") (rAll K) := hK ▸ cr_all hc
theorem k_any {X : Cx} (hK : X.K = K) (hc : X.calm = true) : CallR X (.builtin "any") (rAny K) := hK ▸ cr_any hc
def rInt1 : List V → Hp → VK → Prop := fun xs H Q => (∃ i, xs = [.int i] ∧ Q (.int i) H) ∨ ∃ k, xs = [.bl k] ∧ Q (.int (if k then 1 else 0)) H
theorem ucall_int {X : Cx} : CallR X (.type "int") rInt1 := call_int1
def cInt (ds : List Dt) (μ : Mem) : R Dt := match ds with
  | [.int i] => .ok (.int i) μ
  | [.bl k] => .ok (.int (if k then 1 else 0)) μ
  | _ => .no
theorem rc_int : RC Γ rInt1 cInt := fun W ω σ μ H xs ds Q hg w r h => by
  unfold cInt at h
  split at h
  · obtain ⟨v, rfl, rv⟩ := r.one
    cases rv
    exact .inl ⟨_, rfl, h.ok w (.int _)⟩
  · obtain ⟨v, rfl, rv⟩ := r.one
    cases rv
    exact .inr ⟨_, rfl, h.ok w (.int _)⟩
  · exact h.elim
def rStrI : List V → Hp → VK → Prop := fun xs H Q => ∃ i : Int, xs = [.int i] ∧ i.natAbs.log2 < 1920 ∧ Q (.str (toString i)) H
theorem ucall_strI {X : Cx} : CallR X (.type "str") rStrI := call_str_int
def cStrI (ds : List Dt) (μ : Mem) : R Dt := match ds with
  | [.int i] => if i.natAbs.log2 < 1920 then .ok (.str (toString i)) μ else .no
  | _ => .no
theorem rc_strI : RC Γ rStrI cStrI := fun W ω σ μ H xs ds Q hg w r h => by
  unfold cStrI at h
  split at h
  · split at h
    · rename_i i hi
      obtain ⟨v, rfl, rv⟩ := r.one
      cases rv
      exact ⟨_, rfl, hi, h.ok w (.str _)⟩
    · exact h.elim
  · exact h.elim
def rTupOf (K : PySem.W.Frag) : List V → Hp → VK → Prop := fun xs H Q => ∃ p ys, xs = [.ref p] ∧ ((SqL K H p ys ∧ ∀ l, H l = none → Q (.ref l) (upd H l (.tup ys))) ∨ (SqT K H p ys ∧ Q (.ref p) H))
theorem k_tupOf {X : Cx} (hK : X.K = K) : CallR X (.type "tuple") (rTupOf K) := hK ▸ call_tuple_of
def cTup (ds : List Dt) (μ : Mem) : R Dt := match ds with
  | [.tup es] => .ok (.tup es) μ
  | [d] => match asL μ d with
    | some es => .ok (.tup es) μ
    | none => .no
  | _ => .no
theorem rc_tup : RC Γ (rTupOf K) cTup := fun W ω σ μ H xs ds Q hg w r h => by
  unfold cTup at h
  split at h
  · obtain ⟨v, rfl, rv⟩ := r.one
    cases rv with
    | tup hb rr => exact ⟨_, _, rfl, .inr ⟨.inl (.inl (w.x _ _ hb)), h.ok w (.tup hb rr)⟩⟩
  · obtain ⟨v, rfl, rv⟩ := r.one
    split at h
    · rename_i es e
      obtain ⟨p, ys, rfl, hq, rr⟩ := asL_ok w rv e
      exact ⟨_, _, rfl, .inl ⟨.inl (.inl hq), fun l hl => h.newT w rr hl⟩⟩
    · exact h.elim
  · exact h.elim
def rLstOf (K : PySem.W.Frag) : List V → Hp → VK → Prop := fun xs H Q => ∃ p ys, xs = [.ref p] ∧ (SqL K H p ys ∨ SqT K H p ys) ∧ ∀ l, H l = none → Q (.ref l) (upd H l (.lst ys))
theorem k_lstOf {X : Cx} (hK : X.K = K) : CallR X (.type "list") (rLstOf K) := hK ▸ call_list_of
def cLst (ds : List Dt) (μ : Mem) : R Dt := match ds with
  | [d] => match asS μ d with
    | some es => .ok (.lst es) μ
    | none => .no
  | _ => .no
def cLstN (ds : List Dt) (μ : Mem) : R Dt := match ds with
  | [d] => match asS μ d with
    | some es => .ok (.ptr μ.length) (μ ++ [.lst es])
    | none => .no
  | _ => .no
theorem rc_lst : RC Γ (rLstOf K) cLst := fun W ω σ μ H xs ds Q hg w r h => by
  unfold cLst at h
  split at h
  · obtain ⟨v, rfl, rv⟩ := r.one
    split at h
    · rename_i es e
      obtain ⟨p, ys, rfl, hq, rr⟩ := asS_ok (K := K) w rv e
      exact ⟨_, _, rfl, hq, fun l hl => h.new w rr hl⟩
    · exact h.elim
  · exact h.elim
theorem GoE.newM {ω : Wd} {W : WX} {σ : L2.St} {ds : List Dt} {μ : Mem} {Q : VK} {xs : List V} {H : Hp} {p : Addr} (h : GoE Rp W ω σ (.ok (.ptr μ.length) (μ ++ [.lst ds])) Q) (w : WR ω μ H) (r : RpL ω xs ds) (hp : H p = none) : Q (.ref p) (upd H p (.lst xs)) := by
  have la : Le0 ω { ω with α := ω.α ++ [p] } := ⟨rfl, fun i a h => by
    show (ω.α ++ [p])[i]? = some a
    rw [List.getElem?_append_left (List.getElem?_eq_some_iff.mp h).1]
    exact h, Same.refl _⟩
  obtain ⟨l2, w2, e2⟩ := w.newM (u := .lst xs) (o := .lst ds) hp ⟨w.x.free hp, xs, upd_same, r.mono0 la⟩
  exact h _ _ _ l2 w2 (.ptr e2)
theorem rc_lstN : RC Γ (rLstOf K) cLstN := fun W ω σ μ H xs ds Q hg w r h => by
  unfold cLstN at h
  split at h
  · obtain ⟨v, rfl, rv⟩ := r.one
    split at h
    · rename_i es e
      obtain ⟨p, ys, rfl, hq, rr⟩ := asS_ok (K := K) w rv e
      exact ⟨_, _, rfl, hq, fun l hl => h.newM w rr hl⟩
    · exact h.elim
  · exact h.elim
/-- a + b, a new list that may change -/
def oCatN (a b : Dt) (μ : Mem) : R Dt := match asL μ a, asL μ b with
  | some ds, some es => if ds.length + es.length ≤ 1000000 then .ok (.ptr μ.length) (μ ++ [.lst (ds ++ es)]) else .no
  | _, _ => .no
theorem ro_catN : RO Γ uAdd oCatN := fun W ω σ μ H x y a b Q hg w ra rb h => by
  unfold oCatN at h
  split at h
  · rename_i ds es e1 e2
    split at h
    · rename_i hl
      obtain ⟨p, xs, rfl, hx, rx⟩ := asL_ok w ra e1
      obtain ⟨q, ys, rfl, hy, ry⟩ := asL_ok w rb e2
      exact .inr (.inr ⟨_, _, _, _, rfl, rfl, hx, hy, by rw [rx.len, ry.len]; exact Nat.le_trans hl (by decide), fun p hp => h.newM w (rx.app ry) hp⟩)
    · exact h.elim
  · exact h.elim
/-! ### methods of texts and lists -/
def strsD (ys : List Str) : List Dt := ys.map Dt.str
def asT : List Dt → Option (List Str)
  | [] => some []
  | .str b :: ds => (asT ds).map (b :: ·)
  | _ => none
theorem asT_eq : ∀ {ds : List Dt} {bs : List Str}, asT ds = some bs → ds = bs.map Dt.str
  | [], bs, h => by cases h; rfl
  | d :: ds, bs, h => by
    cases d with
    | str b =>
      obtain ⟨cs, e, rfl⟩ := Option.map_eq_some_iff.mp (show (asT ds).map (b :: ·) = some bs from h)
      rw [asT_eq e]
      rfl
    | _ => cases h
theorem asT_map (bs : List Str) : asT (bs.map Dt.str) = some bs := by
  induction bs with
  | nil => rfl
  | cons b bs ih =>
    show (asT (bs.map Dt.str)).map (b :: ·) = _
    rw [ih]
    rfl
def rSplit : V → List V → Hp → VK → Prop := fun x xs H Q => ∃ a b, x = .str a ∧ xs = [.str b] ∧ (b.length == 0) = false ∧ a.length + 2 ≤ sizeLine ∧ rNewStrs (Txt.split a b) H Q
theorem umt_split {X : Cx} : MtR X "str.split" rSplit := mt_split
def bSplit (a : Dt) (ds : List Dt) (μ : Mem) : R Dt := match a, ds with
  | .str x, [.str y] => if (y.length == 0) = false ∧ x.length ≤ 10000000 then .ok (.lst (strsD (Txt.split x y))) μ else .no
  | _, _ => .no
theorem rm_split : RM rSplit bSplit := fun W ω σ μ H x a xs ds Q w ra r h => by
  unfold bSplit at h
  split at h
  · split at h
    · rename_i hc
      cases ra
      obtain ⟨v, rfl, rv⟩ := r.one
      cases rv
      exact ⟨_, _, rfl, rfl, hc.1, Nat.le_trans (Nat.add_le_add_right hc.2 2) (by decide), fun p hp => h.new w (RpL.strs _) hp⟩
    · exact h.elim
  · exact h.elim
def rJoin (K : PySem.W.Frag) : V → List V → Hp → VK → Prop := fun x xs H Q => ∃ a p, ∃ ys : List Str, x = .str a ∧ xs = [.ref p] ∧ (SqL K H p (ys.map V.str) ∨ SqT K H p (ys.map V.str)) ∧
    (ys.map (·.length)).sum + ys.length * a.length ≤ 16777216 ∧ Q (.str (Txt.join a ys)) H
theorem k_join {X : Cx} (hK : X.K = K) : MtR X "str.join" (rJoin K) := hK ▸ mt_join
def bJoin (a : Dt) (ds : List Dt) (μ : Mem) : R Dt := match a, ds with
  | .str x, [d] => match (asS μ d).bind asT with
    | some ys => if (ys.map (·.length)).sum + ys.length * x.length ≤ 16777216 then .ok (.str (Txt.join x ys)) μ else .no
    | none => .no
  | _, _ => .no
theorem rm_join : RM (rJoin K) bJoin := fun W ω σ μ H x a xs ds Q w ra r h => by
  unfold bJoin at h
  split at h
  · split at h
    · rename_i ys e
      split at h
      · rename_i hc
        cases ra
        obtain ⟨v, rfl, rv⟩ := r.one
        obtain ⟨es, e1, e2⟩ := Option.bind_eq_some_iff.mp e
        obtain ⟨p, zs, rfl, hq, rr⟩ := asS_ok (K := K) w rv e1
        rw [asT_eq e2] at rr
        have := rr.of_strs
        subst this
        exact ⟨_, _, ys, rfl, rfl, hq, hc, h.ok w (.str _)⟩
      · exact h.elim
    · exact h.elim
  · exact h.elim
def rStr2 (g : Str → Str → V) : V → List V → Hp → VK → Prop := fun x xs H Q => ∃ a b, x = .str a ∧ xs = [.str b] ∧ Q (g a b) H
theorem umt_count {X : Cx} : MtR X "str.count" (rStr2 fun a b => .int (Txt.count a b)) := mt_count
theorem umt_startswith {X : Cx} : MtR X "str.startswith" (rStr2 fun a b => .bl (Txt.startswith a b)) := mt_startswith
def bStr2 (g : Str → Str → Dt) (a : Dt) (ds : List Dt) (μ : Mem) : R Dt := match a, ds with
  | .str x, [.str y] => .ok (g x y) μ
  | _, _ => .no
theorem rm_str2 {g : Str → Str → V} {f : Str → Str → Dt} (hr : ∀ (ω : Wd) x y, Rp ω (g x y) (f x y)) : RM (rStr2 g) (bStr2 f) := fun W ω σ μ H x a xs ds Q w ra r h => by
  unfold bStr2 at h
  split at h
  · cases ra
    obtain ⟨v, rfl, rv⟩ := r.one
    cases rv
    exact ⟨_, _, rfl, rfl, h.ok w (hr ω _ _)⟩
  · exact h.elim
abbrev bCount := bStr2 fun a b => .int (Txt.count a b)
theorem rm_count : RM (rStr2 fun a b => .int (Txt.count a b)) bCount := rm_str2 fun _ _ _ => .int _
abbrev bStartswith := bStr2 fun a b => .bl (Txt.startswith a b)
theorem rm_startswith : RM (rStr2 fun a b => .bl (Txt.startswith a b)) bStartswith := rm_str2 fun _ _ _ => .bl _
def rLstrip : V → List V → Hp → VK → Prop := fun x xs H Q => ∃ a b, x = .str a ∧ xs = [.str b] ∧ a.length ≤ sizeLine ∧ Q (.str (Txt.lstripChars a b)) H
theorem umt_lstrip {X : Cx} : MtR X "str.lstrip" rLstrip := mt_lstripChars
def bLstrip (a : Dt) (ds : List Dt) (μ : Mem) : R Dt := match a, ds with
  | .str x, [.str y] => if x.length ≤ 10000000 then .ok (.str (Txt.lstripChars x y)) μ else .no
  | _, _ => .no
theorem rm_lstrip : RM rLstrip bLstrip := fun W ω σ μ H x a xs ds Q w ra r h => by
  unfold bLstrip at h
  split at h
  · split at h
    · rename_i hc
      cases ra
      obtain ⟨v, rfl, rv⟩ := r.one
      cases rv
      exact ⟨_, _, rfl, rfl, Nat.le_trans hc (by decide), h.ok w (.str _)⟩
    · exact h.elim
  · exact h.elim
def rRpart : V → List V → Hp → VK → Prop := fun x xs H Q => ∃ a b, x = .str a ∧ xs = [.str b] ∧ (b.length == 0) = false ∧ a.length ≤ sizeLine ∧
    ∀ p, H p = none → Q (.ref p) (upd H p (.tup [.str (Txt.rpartition a b).1, .str (Txt.rpartition a b).2.1, .str (Txt.rpartition a b).2.2]))
theorem umt_rpartition {X : Cx} : MtR X "str.rpartition" rRpart := by
  intro pins s σ H x xs v us Q I rx rs h
  obtain ⟨a, b, rfl, rfl, hb, hz, h⟩ := h
  obtain ⟨t, rfl⟩ := rx
  cases rs with
  | cons r1 rs =>
    cases rs
    obtain ⟨u, rfl⟩ := r1
    refine call_meets F.slot_str_rpartition (typeIs_str _ _ _) F.entry_str_rpartition (F.args_str_rpartition_2 _ _) (meets_str_rpartition a b t u hb hz) ?_
    unfold Txt.rpartition at h
    revert h
    cases Builtin.Str.lastOccurrence a b 0 a.length with
    | none => intro h; exact laid_parts I h
    | some i => intro h; exact laid_parts I h
def bRpart (a : Dt) (ds : List Dt) (μ : Mem) : R Dt := match a, ds with
  | .str x, [.str y] => if (y.length == 0) = false ∧ x.length ≤ 10000000 then .ok (.tup [.str (Txt.rpartition x y).1, .str (Txt.rpartition x y).2.1, .str (Txt.rpartition x y).2.2]) μ else .no
  | _, _ => .no
theorem rm_rpart : RM rRpart bRpart := fun W ω σ μ H x a xs ds Q w ra r h => by
  unfold bRpart at h
  split at h
  · split at h
    · rename_i hc
      cases ra
      obtain ⟨v, rfl, rv⟩ := r.one
      cases rv
      exact ⟨_, _, rfl, rfl, hc.1, Nat.le_trans hc.2 (by decide), fun p hp => h.newT w (.cons (.str _) (.cons (.str _) (.cons (.str _) .nil))) hp⟩
    · exact h.elim
  · exact h.elim
def bAppend (a : Dt) (ds : List Dt) (μ : Mem) : R Dt := match a, ds with
  | .ptr i, [d] => match μ[i]? with
    | some (.lst es) => if es.length ≤ 1000000 then .ok .non (μ.set i (.lst (es ++ [d]))) else .no
    | _ => .no
  | _, _ => .no
theorem rm_append : RM rAppend bAppend := fun W ω σ μ H x a xs ds Q w ra r h => by
  unfold bAppend at h
  split at h
  · split at h
    · rename_i es e
      split at h
      · rename_i hc
        obtain ⟨v, rfl, rv⟩ := r.one
        cases ra with
        | ptr hb =>
          obtain ⟨hB, ys, hy, ry⟩ := w.at_ _ _ _ hb e
          refine ⟨_, ys, v, rfl, rfl, hy, Nat.lt_of_le_of_lt (by rw [ry.len]; exact hc) (show 1000000 < sizeLine by decide), ?_⟩
          exact h _ ω _ (Le.refl _) (w.put hb hB ⟨hB, ys ++ [v], upd_same, ry.app (.cons rv .nil)⟩) .non
      · exact h.elim
    · exact h.elim
  · exact h.elim
def bIndex (a : Dt) (ds : List Dt) (μ : Mem) : R Dt := match asL μ a, ds with
  | some es, [d] => if flatD d = true ∧ es.all flatD = true then (match es.findIdx? fun e => eqF e d with
    | some j => .ok (.int (j : Nat)) μ
    | none => .no) else .no
  | _, _ => .no
theorem k_index {X : Cx} (hK : X.K = K) : MtR X "list.index" (rIndex K) := hK ▸ mt_index
theorem rm_index : RM (rIndex K) bIndex := fun W ω σ μ H x a xs ds Q w ra r h => by
  unfold bIndex at h
  split at h
  · rename_i es d e
    split at h
    · rename_i hf
      split at h
      · rename_i j ej
        obtain ⟨v, rfl, rv⟩ := r.one
        obtain ⟨p, ys, rfl, hq, ry⟩ := asL_ok w ra e
        obtain ⟨hj, hp, hmin⟩ := List.findIdx?_eq_some_iff_getElem.mp ej
        have hej : es[j]? = some es[j] := List.getElem?_eq_getElem hj
        obtain ⟨z, hz, rz⟩ := ry.get hej
        have fe : ∀ {m : Nat} {x : Dt}, es[m]? = some x → flatD x = true := fun {m x} hx => List.all_eq_true.mp hf.2 x (List.mem_of_getElem? hx)
        refine ⟨p, ys, v, j, z, rfl, rfl, .inl (.inl hq), rv.flat hf.1, ry.flat hf.2, hz, ?_, fun m z' hm hz' => ?_, h.ok w (.int _)⟩
        · rw [rz.eqF rv (fe hej) hf.1]
          exact hp
        · have hml : m < es.length := Nat.lt_trans hm hj
          obtain ⟨z2, hz2, rz2⟩ := ry.get (List.getElem?_eq_getElem hml)
          rw [hz2] at hz'
          cases hz'
          rw [rz2.eqF rv (fe (List.getElem?_eq_getElem hml)) hf.1]
          simpa using hmin m hm
      · exact h.elim
    · exact h.elim
  · exact h.elim
end
end DM

set_option linter.all false
set_option maxRecDepth 100000
set_option maxHeartbeats 4000000
/-! DM5: errors that are kept; calls of defs; what a def promises; raise, try. -/
namespace DM
open PySem PySem.Spec PyProof.Rows L2
open Classical
theorem exK_ok {P : Program} {w : World} {H : Hp} {h : Heap} {a : Addr} {cls : Value} {d : Option Addr} {oe : Obj} {vs : Array Value} (e : h.get? a = some oe) (z : Zc cls d oe) (q : oe.data = .fields vs) : ObjOk P w H h a (exK cls d a) :=
  ⟨⟨oe, vs, e, z, q⟩, ⟨oe, e⟩, fun _ _ ⟨o, v, q, r⟩ k => ⟨o, v, k o q, r⟩⟩
theorem exK_at {P : Program} {w : World} {H : Hp} {h : Heap} {a : Addr} {cls : Value} {d : Option Addr} (hok : HOk P w H h) (he : H a = some (exK cls d a)) : ∃ (oe : Obj) (vs : Array Value), h.get? a = some oe ∧ Zc cls d oe ∧ oe.data = .fields vs := by
  have x : ObjOk P w H h a (.ext fun h => ∃ (oe : Obj) (vs : Array Value), h.get? a = some oe ∧ Zc cls d oe ∧ oe.data = .fields vs) := hok a _ he
  exact x.1
/-- the context of a suite whose error is tracked -/
abbrev supX (X : Cx) (a : Addr) : Cx := { X with A := X.A.mark (some (.ref a)), calm := false, xe := fun _ _ => False }
theorem supOk {X : Cx} (ok : X.Ok) (a : Addr) : (supX X a).Ok :=
  ⟨ok.mod, ok.kind, ok.glob, ok.blt, ok.above, ok.inj, ok.has, ok.cab, (fun z => absurd (show false = true from z) Bool.false_ne_true), ok.frames, ok.stk, ok.exf, ok.bs, ok.bsz, ok.noex, ok.exfs, ok.funs, ok.frf⟩
section
variable {X : Cx} {pins : List (Addr × Obj)} {σ : L2.St} {H : Hp} {s : Shared} {a : Addr} {o : HO}
theorem Inv.track (I : Inv X pins σ H s) (na : H a = none) (n0 : X.s_0.heap.get? a = none) (nL : a ≠ X.env.locals) (nc : ∀ x c, X.env.cells.lookup x = some c → c ≠ a) (np : ∀ p ∈ X.pn ++ pins, p.1 ≠ a)
    (new : ObjOk X.prog X.w (upd H a o) s.heap a o) : Inv X pins σ (upd H a o) s := by
  have ne0 : ∀ b ob, X.s_0.heap.get? b = some ob → b ≠ a := fun b ob e z => by
    rw [z, n0] at e
    cases e
  refine ⟨I.ok, I.os, I.bare, ⟨I.base.keep, I.base.slot, fun b ob e n hq => ?_, I.base.there, fun b xs e => ?_, fun b ob u e => ?_, fun b ps e => ?_⟩, I.loc, I.cell, ?_, fun x c e => ?_, fun p hp => ?_, ?_, I.len⟩
  · rw [upd_ne (ne0 b ob e)]
    exact I.base.free b ob e n hq
  · have q := I.base.tups b xs e
    rw [upd_ne (ne_of_none q na)]
    exact q
  · have q := I.base.frzs b ob u e
    rw [upd_ne (ne_of_none q na)]
    exact q
  · obtain ⟨m, q⟩ := I.base.tbls b ps e
    exact ⟨m, by rw [upd_ne (ne_of_none q na)]; exact q⟩
  · rw [upd_ne nL.symm]
    exact I.free
  · rw [upd_ne (nc x c e)]
    exact I.freeC x c e
  · obtain ⟨e, n, ne, nf, d⟩ := I.pin p hp
    exact ⟨e, by rw [upd_ne (np p hp)]; exact n, ne, nf, d⟩
  · intro b u e
    by_cases hb : b = a
    · subst hb
      rw [upd_same] at e
      cases e
      exact new
    · rw [upd_ne hb] at e
      exact (I.hok b u e).stay (fun _ _ _ q => q) (fun c q => by rw [upd_ne (ne_of_none q na)]; exact q) fun c xs q => by rw [upd_ne (ne_of_none q na)]; exact q
theorem Inv.toSup (I : Inv X pins σ H s) (a : Addr) : Inv (supX X a) pins σ H s := ⟨supOk I.ok a, I.os, I.bare, I.base, I.loc, I.cell, I.free, I.freeC, I.pin, I.hok, I.len⟩
theorem Inv.ofSup (I : Inv (supX X a) pins σ H s) (ok : X.Ok) : Inv X pins σ H s := ⟨ok, I.os, I.bare, I.base, I.loc, I.cell, I.free, I.freeC, I.pin, I.hok, I.len⟩
end
/-- what the clause 'except x as n' wishes: the error at a is tracked; slot i is n's -/
def wKeep (K : PySem.W.Frag) (c : Value) (i : Nat) (ts : TS) (Wout : WX) (D : Ends) : WX := fun cls d σ H =>
  ∃ b, PySem.W.exmOne K cls c = some b ∧ (b = true → ∀ a, H a = none → ts { nx := fun σ' H' => D.nx (σ'.set i none) H', rt := D.rt, bk := fun σ' H' => D.bk (σ'.set i none) H', ct := fun σ' H' => D.ct (σ'.set i none) H' } (σ.set i (some (.ref a))) (upd H a (exK cls d a))) ∧
    (b = false → Wout cls d σ H)
/-- 'except x' without a name -/
def wNot (K : PySem.W.Frag) (c : Value) (ts : TS) (Wout : WX) (D : Ends) : WX := fun cls d σ H =>
  ∃ b, PySem.W.exmOne K cls c = some b ∧ (b = true → ∀ a, H a = none → ts D σ (upd H a (exK cls d a))) ∧ (b = false → Wout cls d σ H)
section
variable {X : Cx} {x n : Str} {c : Value} {i : Nat} {body suite : List Stmt} {b₀ : Stmt} {np pos pos' : Pos} {tb : WX → TS} {ts : TS} {Wout : WX}
/-- the part of the catch that leads into the suite -/
theorem caught_track {pins : List (Addr × Obj)} {σ' : L2.St} {H' : Hp} {sI s' : Shared} {B : Heap} {a : Addr} {cls : Value} {d : Option Addr} {oe : Obj} {vs : Array Value} (hex : X.ex = []) (J : Inv X pins σ' H' sI) (J3 : Inv X pins σ' H' s')
    (nb : ∀ b o, sI.heap.get? b = some o → b ∉ frs X.stack → B.get? b = some o) (hBn : B.get? a = none) (nS : a ∉ frs X.stack) (nL : a ≠ X.env.locals) (na : H' a = none) (he : s'.heap.get? a = some oe) (hz : Zc cls d oe) (hd : oe.data = .fields vs) :
    Inv (supX X a) pins σ' (upd H' a (exK cls d a)) s' := by
  have nI : sI.heap.get? a = none := by
    cases e : sI.heap.get? a with
    | none => rfl
    | some o =>
      have := nb a o e nS
      rw [hBn] at this
      cases this
  have n0 : X.s_0.heap.get? a = none := by
    cases e : X.s_0.heap.get? a with
    | none => rfl
    | some o =>
      obtain ⟨o', e'⟩ := J.base.there a o e (by rw [hex]; exact fun z => nomatch z)
      rw [nI] at e'
      cases e'
  refine Inv.toSup (Inv.track J3 na n0 nL (fun x c e z => ?_) (fun p hp z => ?_) (exK_ok he hz hd)) a
  · obtain ⟨v, o, ho, hdo⟩ := J3.cell x c e
    rw [z, he] at ho
    cases ho
    rw [hd] at hdo
    cases hdo
  · have q := (J.pin p hp).1
    rw [z, nI] at q
    cases q
theorem ps_try_keep (hs : X.stack = X.env :: X.outer) (hf : X.env.frame = some X.env.locals) (hex : X.ex = []) (hN : X.N.Nodup) (hi : X.N[i]? = some n) (hln : X.env.kindOf n = some .local) (hc : Names X x c) (tk : Takes X Wout)
    (hb : ∀ (W : WX) (pn : List (Addr × Obj)) (xe : Value → Shared → Prop), Takes (X.tr pn xe) W → PassesOwn (model X.prog X.w) X.A X.env xe → PSs (X.tr pn xe) body (tb W))
    (hsu : ∀ a : Addr, PSs (supX X a) (b₀ :: suite) ts) :
    PS X (.Try body [.ExceptHandler (some (.Name x np)) (some n) (b₀ :: suite) pos'] [] [] pos) (fun D σ H => tb (wKeep X.K c i ts Wout D) D σ H) := by
  refine ⟨fun pins s σ H D I h => ?_⟩
  have ok := I.ok
  have hfr : X.A.frames = some (X.env :: X.outer) := by rw [ok.frames, hs]
  have hloc : Loc X.env.scope n := .inl hln
  refine wpAny_Try_except ?_
  refine wpAny_mono ((hb (wKeep X.K c i ts Wout D) (X.pn ++ pins) (fun e s₁ => wpAny (model X.prog X.w) X.A (noteFrame e X.env) (fun _ s₂ => wpAny (model X.prog X.w) X.A (setFlight e none) (fun _ s₃ =>
    wpAny (model X.prog X.w) X.A (handleBy e X.env [.ExceptHandler (some (.Name x np)) (some n) (b₀ :: suite) pos']) (SP X pins D) X.xe s₃) X.xe s₂) X.xe s₁) (fun u s' xx => ?_) PassesOwn.looking).run [] s σ H D (I.toTry _) h) (fun f s1 hsp => ?_) (fun e s1 he => he)
  · obtain ⟨a, B, sI, pins', σ', H', cls, d, rfl, J', nb, up, sky, na, os, ag, b, hb1, hyes, hno⟩ := xx
    have J : Inv X pins σ' H' sI := J'.ofTry ok
    have sky' : Sky B (X.env :: X.outer) a (Zc cls d) X.env.locals s'.heap := by rw [← hs]; exact sky
    show wpAny (model X.prog X.w) X.A (noteFrame (.ref a) X.env) _ _ _
    refine Sky.land Zc.steady hfr hf sky' fun h3 fl3 up3 => ?_
    have J3 : Inv X pins σ' H' { s' with heap := h3 } := J.landed nb fl3.1 (up.trans up3) os ag
    obtain ⟨oe3, vs3, he3, hz3, hd3⟩ := fl3.there
    have notFr : ∀ {h : Heap} {o : Obj} {vs : Array Value}, h.FunFrames B (X.env :: X.outer) → h.get? a = some o → o.data = .fields vs → a ∉ frs (X.env :: X.outer) := fun {h o vs} ff e dd hm => by
      obtain ⟨_, o', e', hnf⟩ := ff.mem hm
      rw [e] at e'; cases e'
      exact hnf _ dd
    have nfr := notFr fl3.2.2.1 he3 hd3
    have nL : a ≠ X.env.locals := fun z => nfr (List.mem_filterMap.mpr ⟨X.env, List.mem_cons_self, by rw [hf, z]⟩)
    have nF : a ∉ X.fs := fun hm => by
      obtain ⟨e, he, q⟩ := List.mem_filterMap.mp hm
      exact nfr (List.mem_filterMap.mpr ⟨e, List.mem_cons_of_mem _ he, q⟩)
    have S3 := J3.suite he3 hd3 na nL nF
    refine wpAny_handleBy_cons (codeAny_handlers_test ?_) (by intro q; cases q)
    have LT : PySem.W.Looks (model X.prog X.w) h3 (typeOf (.ref a)) cls := fun A Q E s k q => wpAny_typeOf_ref (k _ _ he3) (by rw [hz3.1]; exact q)
    have LM := PySem.W.exm_one (M := model X.prog X.w) (J3.kIn) LT hb1
    have test : ∀ {Q : Value → Shared → Prop} {E : Value → Shared → Prop}, Q c { s' with heap := h3 } → wpAny (model X.prog X.w) (X.A.mark (some (.ref a))) (eval (.Name x np) X.env) Q E { s' with heap := h3 } := fun {Q E} q => by
      obtain ⟨hg, hdbg, hm | ⟨hm, hv, hnn⟩⟩ := hc
      · exact ld_glob (X := X.suite a ((a, oe3) :: (X.pn ++ pins))) S3 hg hm q hdbg
      · exact ld_blt (X := X.suite a ((a, oe3) :: (X.pn ++ pins))) S3 hg hm hv q hnn hdbg
    refine test (LM.here ?_)
    cases b with
    | true =>
      refine codeAny_handlers_suite_as ?_
      refine HandSPX.lands_againZ fl3 fun h4 fl4 up4 => ?_
      have J4 : Inv X pins σ' H' { s' with heap := h4 } := J.landed nb fl4.1 ((up.trans up3).trans up4) os ag
      obtain ⟨oe4, vs4, he4, hz4, hd4⟩ := fl4.there
      have S4 : Inv (supX X a) pins σ' (upd H' a (exK cls d a)) { s' with heap := h4 } := caught_track hex J J4 nb fl4.2.1 (by rw [hs]; exact nfr) nL na he4 hz4 hd4
      refine store_ok (X := supX X a) (v := .ref a) S4 hN hi hloc rfl (fun s5 S5 => ?_) (.inr hln)
      refine wpAny_mono ((hsu a).run pins s5 _ _ _ S5 (hyes rfl a na)) (fun f s6 hsp => ?_) (fun _ _ z => False.elim z)
      have end_ : ∀ {σ6 : L2.St} {H6 : Hp} {Q : Shared → Prop}, Inv (supX X a) pins σ6 H6 s6 → (∀ s7, Inv X pins (σ6.set i none) H6 s7 → Q s7) →
          wpAny (model X.prog X.w) X.A (do bindName X.env n .none; unbindBehindTheSuite X.env n pos') (fun _ s7 => Q s7) X.xe s6 := fun {σ6 H6 Q} S6 hq => gone_ok (Inv.ofSup S6 ok) hN hi hln hq
      cases f with
      | next =>
        obtain ⟨σ6, H6, S6, q6⟩ := hsp
        exact end_ S6 fun s7 J7 => ⟨_, _, J7, q6⟩
      | brk =>
        obtain ⟨σ6, H6, S6, q6⟩ := hsp
        exact end_ S6 fun s7 J7 => ⟨_, _, J7, q6⟩
      | cont =>
        obtain ⟨σ6, H6, S6, q6⟩ := hsp
        exact end_ S6 fun s7 J7 => ⟨_, _, J7, q6⟩
      | ret u =>
        obtain ⟨v6, σ6, H6, S6, r6, q6⟩ := hsp
        exact end_ S6 fun s7 J7 => ⟨_, _, _, J7, r6, q6⟩
    | false =>
      show wpAny _ X.A (handleBy (.ref a) X.env []) _ _ _
      refine wpAny_handleBy_nil ?_
      obtain ⟨k1, k2, k3, oe, vs, T, oT, ts', he, hz, hd, h1, hr⟩ := id fl3
      unfold PySem.passOn
      refine wpAny_bind (wpAny_field he hd h1 ?_)
      rw [if_neg (show ¬ ((Value.ref T == Value.none) = true) from by simp)]
      have fin : wpAny (model X.prog X.w) X.A (setFlight (.ref a) X.env.frame) (fun _ s4 => wpAny (model X.prog X.w) X.A (throw (.ref a) : Sem Flow) (SP X pins D) X.xe s4) X.xe { s' with heap := h3 } := by
        rw [hf]
        refine HandSPX.setFlight_upZ fl3 fun h4 hh4 up4 => wpAny_throw (tk _ _ ?_)
        exact ⟨a, B, sI, pins, σ', H', cls, d, rfl, J, nb, (up.trans up3).trans up4, .inr (.inr (by rw [hs]; exact hh4)), na, os, ag, hno rfl⟩
      first
        | exact wpAny_bind (wpAny_pure (wpAny_bind fin))
        | exact wpAny_bind fin
  · cases f with
    | next =>
      obtain ⟨σ', H', J', q⟩ := hsp
      exact wpAny_execs_nil ⟨σ', H', J'.ofTry ok, q⟩
    | brk =>
      obtain ⟨σ', H', J', q⟩ := hsp
      exact ⟨σ', H', J'.ofTry ok, q⟩
    | cont =>
      obtain ⟨σ', H', J', q⟩ := hsp
      exact ⟨σ', H', J'.ofTry ok, q⟩
    | ret u =>
      obtain ⟨v, σ', H', J', r, q⟩ := hsp
      exact ⟨v, σ', H', J'.ofTry ok, r, q⟩
end
/-! ### isinstance of a kept error, its fields -/
structure ExC (K : PySem.W.Frag) (D : Addr) : Prop where
  cl : (PySem.W.clsIn K D).isSome = true
  hg : PySem.W.findIn K (.ref D) "__getattribute__" = some (some (.builtin "BaseException.__getattribute__"))
  hk : PySem.W.findIn K (.ref D) "__getattr__" = some none
  hs : PySem.W.subIn K (.ref D) (.type "BaseException") = some true
  hd : PySem.W.hasDictIn K D = true
  ha : PySem.W.findIn K (.ref D) "__class__" = some (some (.builtin "object.__class__"))
  hn : PySem.W.specialIn K (.builtin "object.__class__") "__get__" = some (some (.builtin "getset_descriptor.__get__"))
  ht : PySem.W.takesIn K (.builtin "object.__class__") = some true
  hm : PySem.W.mroIn K D (.type "object") = some true
/-- isinstance(e, c), e a kept error -/
def rIsX (K : PySem.W.Frag) : List V → Hp → VK → Prop := fun xs H Q => ∃ (a D : Addr) (d : Option Addr) (c : V) (cv : Value) (b : Bool), xs = [.ref a, c] ∧ H a = some (exK (.ref D) d a) ∧ (∀ dd, d = some dd → ∃ fs, H dd = some (.xd fs)) ∧ ExC K D ∧ ClsV c cv ∧ PySem.W.kitOne K (.ref D) cv = some b ∧ Q (.bl b) H
theorem call_isX {X : Cx} : CallR X (.builtin "isinstance") (rIsX X.K) := by
  intro pins s σ H xs us Q I r h
  obtain ⟨a, D, d, c, cv, b, rfl, ha, hdd, C, k, e, q⟩ := h
  obtain ⟨u1, u2, rfl, r1, r2⟩ := vals2 r
  have e2 := k.eq r2
  subst e2
  cases (show u1 = Value.ref a from r1)
  obtain ⟨oe, vs, hget, hz, hv⟩ := exK_at I.hok ha
  have hno : PySem.W.notCls oe = true := by unfold PySem.W.notCls; rw [hv] <;> rfl
  have J : ∃ od, PySem.W.InstAt s.heap a oe D od := by
    cases d with
    | none => exact ⟨none, hget, hz.1, hno, by rw [hz.2]; trivial⟩
    | some dd =>
      obtain ⟨fs, hx⟩ := hdd dd rfl
      obtain ⟨mA, ⟨od, es, ep, ho, _⟩, _⟩ := (show ObjOk X.prog X.w H s.heap dd (.xd fs) from I.hok dd _ hx)
      exact ⟨some od, hget, hz.1, hno, by rw [hz.2]; exact ho⟩
  obtain ⟨od, J⟩ := J
  exact PySem.W.kia_one (PySem.W.kitx_exc C.cl C.hg C.hk C.hs C.ha C.hn C.ht C.hm) I.kIn J e (fun z => nomatch z) fun tk => ⟨.bl b, H, I.kept (t' := tk) fun _ _ z => z, rfl, q⟩
/-- either way -/
def rIsU (K : PySem.W.Frag) : List V → Hp → VK → Prop := fun xs H Q => rIsX K xs H Q ∨ rIsi K xs H Q
theorem k_isU {X : Cx} {K : PySem.W.Frag} (hK : X.K = K) : CallR X (.builtin "isinstance") (rIsU K) := fun pins s σ H xs us Q I r h => by
  subst hK
  rcases h with h | h
  · exact call_isX pins s σ H xs us Q I r h
  · exact call_isi pins s σ H xs us Q I r h
/-- e.f, e a kept error -/
def tXfK (K : PySem.W.Frag) (f : Str) (te : TE) : TE := fun σ H Q => te σ H fun x H1 => ∃ (a C dd : Addr) (fs : List (Str × V)) (v : V), x = .ref a ∧ ExC K C ∧ PySem.W.findIn K (.ref C) f = some none ∧ H1 a = some (exK (.ref C) (some dd) a) ∧ H1 dd = some (.xd fs) ∧ fs.lookup f = some v ∧ Q v H1
theorem k_xf {X : Cx} {K : PySem.W.Frag} (hK : X.K = K) {e : Expr} {te : TE} {pos : Pos} {n : Str} (he : PE X e te) (hb : attributeBase e n X.env (eval e X.env) = eval e X.env := by rfl) : PE X (.Attribute e n pos) (tXfK K n te) := by
  subst hK
  refine ⟨fun pins s σ H Q I h => ?_⟩
  refine attr_of hb (thn (he.run pins s σ H _ I h) fun u s1 hh => ?_)
  obtain ⟨x, H1, I1, rx, a, C, dd, fs, v, ex, T, hno, ha, ea, l, q⟩ := hh
  subst ex
  obtain rfl : u = Value.ref a := rx
  obtain ⟨oe, vs, hget, hz, hd⟩ := exK_at I1.hok ha
  have hx : ObjOk X.prog X.w H1 s1.heap dd (.xd fs) := I1.hok dd _ ea
  obtain ⟨mA, hns, hr⟩ := hx
  obtain ⟨od, ho, hl⟩ := lookIn_ns hns
  obtain ⟨u, hu, ru⟩ := RelO.some_of (v := v) (o := mA n) (by rw [← l]; exact hr n)
  have J : PySem.W.InstAt s1.heap a oe C (some od) := ⟨hget, hz.1, by unfold PySem.W.notCls; rw [hd] <;> rfl, by rw [hz.2]; exact ho⟩
  exact HandSPX.exc_get I1.kIn J T.hg T.hk T.hs (PySem.W.findObj_own T.hd hno rfl (by rw [hl, hu])) (handed_of ru) ⟨v, H1, I1.tok _, ru, q⟩
/-- f(e, .., k = v, ..) that may raise -/
def tCallNS (n m : Nat) (sp : Sp) (gV : List V → List V → List V) (E : L2.St → XK) (t tk : TA) : TE := fun σ H Q => t σ H fun vs H1 => tk σ H1 fun zs H2 => vs.length = n ∧ zs.length = m ∧ sp (gV vs zs) H2 Q (E σ)
theorem FunD.kbinds0 {K : PySem.W.Frag} {x qual : Str} {params : Arguments} {body : List Stmt} {scope : Scope} {kws : List (Str × V)} {f : Addr} {fd : FuncData} {ps : List Str} (F : FunD K x qual params body scope [] kws f fd) (n : Nat) (ks : List Str) (ms : List (Str × V)) (g : {α : Type} → List α → List α → List α → List α) (hms : ∀ q ∈ ms, q ∈ kws)
    (hrel : ∀ {vs mz zs : List V} {us mv ws : List Value}, Vals vs us → Vals mz mv → Vals zs ws → Vals (g vs mz zs) (g us mv ws))
    (h : ∀ (dk doc pm : Value) (D : Addr) (an : Option Addr) (cdv ct : Value) (us mv ws : List Value), (kws ≠ [] → dk = .ref D) → us.length = n → mv.length = ms.length → ws.length = ks.length →
      KwChain D ((ms.map (·.1)).zip mv) (bindArgs (PySem.W.fnOf x qual params body scope .none dk doc pm an cdv ct) ⟨us, ks.zip ws⟩) (ps.zip (g us mv ws))) :
    ∃ mv : List Value, KBn K fd ps n ks (fun us ws => g us mv ws) (fun vs zs => g vs (ms.map (·.2)) zs) := by
  obtain ⟨oc, od, dV, kV, doc, pm, an, cdv, ct, osl, rfl, lk, hcd, hD, hK⟩ := F.ex
  rcases hD with ⟨_, rfl⟩ | ⟨e, _⟩
  · have hK' : ∃ D : Addr, (kws ≠ [] → kV = .ref D) ∧ ∀ q ∈ kws, ∃ u, PySem.W.nsIn K D q.1 = some (some u) ∧ RelV q.2 u := by
      rcases hK with e | ⟨D, e, hq⟩
      · exact ⟨0, fun z => absurd e z, fun q hq => by rw [e] at hq; cases hq⟩
      · exact ⟨D, fun _ => e, hq⟩
    obtain ⟨D, e, hq⟩ := hK'
    obtain ⟨mv, hl, rk, hks⟩ := kwd_vals (ms := ms) fun q hm => hq q (hms q hm)
    refine ⟨mv, ⟨fun s us ws X l1 l2 => ?_, fun r1 r2 => hrel r1 rk r2⟩⟩
    exact BindsTo.of_looks fun M => KwChain.looks X hks (h kV doc pm D an cdv ct us mv ws e l1 hl l2)
  · exact absurd rfl e
section
variable {X : Cx} {CX : CXT} {k n : Nat} {f : Addr} {fd : FuncData} {ps ks : List Str} {sp : Sp} {E : L2.St → XK} {x : Str} {p pos : Pos} {e : Expr} {es : List Expr} {kws : List Keyword} {t tk : TA} {g : List Value → List Value → List Value} {gV : List V → List V → List V}
theorem run_fnNS {pins : List (Addr × Obj)} {σ : L2.St} {H : Hp} {s : Shared} {Q : VK} {us ws : List Value} {vs zs : List V} (F : FnOk X.prog X.w X.K X.mg X.base CX k f fd ps sp) (hr : Room k X.A) (hb : KBn X.K fd ps n ks g gV) (hx : PassesAt CX X σ (E σ))
    (I : Inv X pins σ H s) (r : Vals vs us) (rz : Vals zs ws) (l1 : vs.length = n) (l2 : zs.length = ks.length) (h : sp (gV vs zs) H Q (E σ)) : wpAny (model X.prog X.w) X.A (call (.ref f) us (ks.zip ws)) (L2.EP X pins σ Q) X.xe s := by
  have r2 := hb.rel r rz
  refine wpAny_call (codeAny_mono (F.run X.A X.stack s H ⟨us, ks.zip ws⟩ (g us ws) (gV vs zs) Q (E σ) hr I.env0 (hb.to s us ws I.kIn (r.length.symm.trans l1) (rz.length.symm.trans l2)) r2 h) fun r s' hq => ?_)
  cases r with
  | error e => exact hx pins H s e s' I hq
  | ok fl =>
    cases fl with
    | ret u => exact I.after hq
    | next => exact False.elim hq
    | brk => exact False.elim hq
    | cont => exact False.elim hq
theorem pe_callNS (F : FnOk X.prog X.w X.K X.mg X.base CX k f fd ps sp) (hr : Room k X.A) (hg : Gl X x) (hm : X.mg x = some (.ref f)) (hk : PySem.W.keepIn X.K (.ref f) = true) (hb : KBn X.K fd ps n ks g gV) (hx : ∀ σ, PassesAt CX X σ (E σ))
    (ha : PA X (e :: es) t) (hkw : PK X kws tk) (hall : (backToKw pos (keywordEach kws X.env)).all (·.1.isSome) = true := by rfl) (hks : (backToKw pos (keywordEach kws X.env)).filterMap (·.1) = ks := by rfl)
    (hdb : (x == ("__debug__" : Str)) = false := by decide) (he : starEach (e :: es) X.env = (false, eval e X.env) :: starEach es X.env := by rfl)
    (hpl : ((backTo pos (starEach (e :: es) X.env)).any (·.1) || (backToKw pos (keywordEach kws X.env)).any (·.1.isNone)) = false := by rfl) :
    PE X (.Call (.Name x p) (e :: es) kws pos) (tCallNS n ks.length sp gV E t tk) := by
  refine ⟨fun pins s σ H Q I h => ?_⟩
  refine wpAny_Call_Name_kw (ld_glob I hg hm ?_ hdb)
  refine PySem.W.callWith_KW (h₀ := X.base) I.ok.mod.kin hk hall (thn (ha.run pos pins s σ H _ I h) fun us s1 ⟨vs, H1, I1, r, q⟩ => ?_) hpl he
  refine thn (hkw.run pos pins s1 σ H1 _ I1 q) fun ws s2 ⟨zs, H2, I2, rz, l1, l2, q2⟩ => ⟨I2.kIn, ?_⟩
  rw [hks]
  exact run_fnNS F hr hb (hx σ) I2 r rz l1 l2 q2
theorem pe_callNS0 (F : FnOk X.prog X.w X.K X.mg X.base CX k f fd ps sp) (hr : Room k X.A) (hg : Gl X x) (hm : X.mg x = some (.ref f)) (hk : PySem.W.keepIn X.K (.ref f) = true) (hb : KBn X.K fd ps 0 ks g gV) (hx : ∀ σ, PassesAt CX X σ (E σ))
    (hkw : PK X kws tk) (hall : (backToKw pos (keywordEach kws X.env)).all (·.1.isSome) = true := by rfl) (hks : (backToKw pos (keywordEach kws X.env)).filterMap (·.1) = ks := by rfl)
    (hdb : (x == ("__debug__" : Str)) = false := by decide)
    (hpl : ((backTo pos (starEach [] X.env)).any (·.1) || (backToKw pos (keywordEach kws X.env)).any (·.1.isNone)) = false := by rfl) :
    PE X (.Call (.Name x p) [] kws pos) (tCallNS 0 ks.length sp gV E tNil tk) := by
  refine ⟨fun pins s σ H Q I h => ?_⟩
  refine wpAny_Call_Name_kw (ld_glob I hg hm ?_ hdb)
  refine PySem.W.callWith_KW0 (h₀ := X.base) I.ok.mod.kin hk hall (thn (hkw.run pos pins s σ H _ I h) fun ws s2 ⟨zs, H2, I2, rz, l1, l2, q2⟩ => ⟨I2.kIn, ?_⟩) hpl
  rw [hks]
  exact run_fnNS (us := []) (vs := []) F hr hb (hx σ) I2 .nil rz l1 l2 q2
/-- f(e, ..), the keyword-only ones lack -/
theorem pe_callNP (F : FnOk X.prog X.w X.K X.mg X.base CX k f fd ps sp) (hr : Room k X.A) (hg : Gl X x) (hm : X.mg x = some (.ref f)) (hk : PySem.W.keepIn X.K (.ref f) = true) (hb : KBn X.K fd ps n [] g gV) (hx : ∀ σ, PassesAt CX X σ (E σ))
    (ha : PA X (e :: es) t) (hdb : (x == ("__debug__" : Str)) = false := by decide) (he : starEach (e :: es) X.env = (false, eval e X.env) :: starEach es X.env := by rfl) (hpl : (backTo pos (starEach es X.env)).any (·.1) = false := by rfl) :
    PE X (.Call (.Name x p) (e :: es) [] pos) (tCallNS n 0 sp gV E t tNil) := by
  refine ⟨fun pins s σ H Q I h => ?_⟩
  refine wpAny_Call_Name_kw (ld_glob I hg hm ?_ hdb)
  refine PySem.W.callWith_K (h₀ := X.base) I.ok.mod.kin hk (thn (ha.run pos pins s σ H _ I h) fun us s1 ⟨vs, H1, I1, r, q⟩ => ⟨I1.kIn, ?_⟩) he hpl
  obtain ⟨l1, l2, q2⟩ := (show vs.length = n ∧ ([] : List V).length = 0 ∧ sp (gV vs []) H1 Q (E σ) from q)
  exact run_fnNS (ks := []) (ws := []) (zs := []) F hr hb (hx σ) I1 r .nil l1 l2 q2
end

/-! ### isinstance -/
def tyN : Dt → String
  | .non => "NoneType"
  | .bl _ => "bool"
  | .int _ => "int"
  | .str _ => "str"
  | .lst _ => "list"
  | .tup _ => "tuple"
  | _ => ""
theorem Rp.tyx {K : PySem.W.Frag} {ω : Wd} {μ : Mem} {H : Hp} {v : V} {d : Dt} (w : WR ω μ H) (h : Rp ω v d) (hn : tyN d ≠ "") : TyX K H v (.type (tyN d)) := by
  cases h with
  | non => exact .base .non
  | bl b => exact .base (.bl b)
  | int i => exact .base (.int i)
  | str x => exact .base (.str x)
  | lst h1 _ => exact .base (.lst (w.x _ _ h1))
  | tup h1 _ => exact .base (.tup (w.x _ _ h1))
  | _ => exact absurd rfl hn
/-- how the classes of errors stand to one another -/
abbrev Tab := Nat → Dt → Option Bool
def TabOk (K : PySem.W.Frag) (Γ : Gm) (tab : Tab) : Prop := ∀ n c b, tab n c = some b → ExC K (Γ.c n) ∧ ((∃ T, c = .ty T ∧ PySem.W.kitOne K (.ref (Γ.c n)) (.type T) = some b) ∨ ∃ m, c = .cls m ∧ PySem.W.kitOne K (.ref (Γ.c n)) (.ref (Γ.c m)) = some b)
def tyOf (μ : Mem) : Dt → String
  | .ptr i => match μ[i]? with
    | some (.lst _) => "list"
    | some (.dK _) => "dict"
    | some (.dT _) => "dict"
    | _ => ""
  | d => tyN d
theorem Rp.tyx2 {K : PySem.W.Frag} {ω : Wd} {μ : Mem} {H : Hp} {v : V} {d : Dt} (w : WR ω μ H) (h : Rp ω v d) (hn : tyOf μ d ≠ "") : TyX K H v (.type (tyOf μ d)) := by
  cases h with
  | ptr hb =>
    rename_i i a
    unfold tyOf at hn ⊢
    dsimp only at hn ⊢
    split at hn
    · rename_i ds e
      obtain ⟨_, xs, hx, _⟩ := w.at_ _ _ _ hb e
      exact .base (.lst hx)
    · rename_i ds e
      obtain ⟨_, xs, hx, _⟩ := w.at_ _ _ _ hb e
      exact .base (.dK hx)
    · rename_i ds e
      obtain ⟨_, xs, hx, _⟩ := w.at_ _ _ _ hb e
      exact .base (.dT hx)
    · exact absurd rfl hn
  | lst h1 h2 => exact (Rp.lst h1 h2).tyx w hn
  | tup h1 h2 => exact (Rp.tup h1 h2).tyx w hn
  | non => exact .base .non
  | bl b => exact .base (.bl b)
  | int i => exact .base (.int i)
  | str x => exact .base (.str x)
  | _ => exact absurd rfl hn
def cIsi (tab : Tab) (ds : List Dt) (μ : Mem) : R Dt := match ds with
  | [.exc n ns es, c] => match tab n c with
    | some b => .ok (.bl b) μ
    | none => .no
  | [d, .ty T] => if tyOf μ d = "" then .no else match kitB (tyOf μ d) T with
    | some b => .ok (.bl b) μ
    | none => .no
  | _ => .no
theorem rc_isi {Γ : Gm} {K : PySem.W.Frag} {tab : Tab} (ht : TabOk K Γ tab) : RC Γ (rIsU K) (cIsi tab) := fun W ω σ μ H xs ds Q hg w r h => by
  unfold cIsi at h
  split at h
  · rename_i n ns es c
    split at h
    · rename_i b e
      obtain ⟨X, hk⟩ := ht n c b e
      obtain ⟨v, u, rfl, rv, ru⟩ := r.two
      have hc : ∃ cv, ClsV u cv ∧ PySem.W.kitOne K (.ref (Γ.c n)) cv = some b := by
        rcases hk with ⟨T, rfl, k⟩ | ⟨m, rfl, k⟩
        · cases ru
          exact ⟨_, .ty T, k⟩
        · cases ru
          rw [hg]
          exact ⟨_, .own _, k⟩
      obtain ⟨cv, k1, k2⟩ := hc
      cases rv with
      | exn h1 =>
        rw [hg] at h1
        exact .inl ⟨_, _, _, _, _, b, rfl, w.x _ _ h1, fun dd z => (nomatch z), X, k1, k2, h.ok w (.bl _)⟩
      | exd h1 h2 _ =>
        rw [hg] at h1
        exact .inl ⟨_, _, _, _, _, b, rfl, w.x _ _ h1, fun dd z => by cases z; exact ⟨_, w.x _ _ h2⟩, X, k1, k2, h.ok w (.bl _)⟩
    · exact h.elim
  · obtain ⟨v, u, rfl, rv, ru⟩ := r.two
    split at h
    · exact h.elim
    · rename_i d T hx hn
      split at h
      · rename_i b e
        cases ru
        exact .inr ⟨_, _, _, _, b, rfl, .ty T, rv.tyx2 w hn, kit_ty e, h.ok w (.bl _)⟩
      · exact h.elim
  · exact h.elim
/-! ### fields of errors -/
def fldX (no : Nat → Str → Bool) (f : Str) (d : Dt) (μ : Mem) : R Dt := match d with
  | .exc n ns es => if no n f = true then (match (ns.zip es).lookup f with
    | some d => .ok d μ
    | none => .no) else .no
  | _ => .no
def NoOk (K : PySem.W.Frag) (Γ : Gm) (no : Nat → Str → Bool) : Prop := ∀ n f, no n f = true → ExC K (Γ.c n) ∧ PySem.W.findIn K (.ref (Γ.c n)) f = some none
theorem zip_look {ω : Wd} {f : Str} {d : Dt} : ∀ {ns : List Str} {vs : List V} {ds : List Dt}, RpL ω vs ds → (ns.zip ds).lookup f = some d → ∃ v, (ns.zip vs).lookup f = some v ∧ Rp ω v d
  | [], vs, ds, _, h => by simp at h
  | n :: ns, _, _, .nil, h => by simp at h
  | n :: ns, _, _, .cons a r, h => by
    rw [List.zip_cons_cons, List.lookup_cons] at h
    rw [List.zip_cons_cons, List.lookup_cons]
    cases e : (f == n) with
    | true =>
      rw [e] at h
      cases h
      exact ⟨_, rfl, a⟩
    | false =>
      rw [e] at h
      exact zip_look r h
section
variable {Γ : Gm} {W : WX} {K : PySem.W.Frag} {ta : TE} {ma : MX} {ts tk : TA} {ms mk : MA}
theorem ev_xf {no : Nat → Str → Bool} {f : Str} (hno : NoOk K Γ no) (ha : EV Γ W ta ma) : EV Γ W (tXfK K f ta) (mUn (fldX no f) ma) := fun σ H Q ⟨ω, δ, μ, hg, he, hw, h⟩ =>
  ha σ H _ ⟨ω, δ, μ, hg, he, hw, GoE.split (f := fldX no f) h fun a μ1 x ω1 H1 l1 w1 r1 h1 => by
    cases a with
    | exc n ns es =>
      unfold fldX at h1
      dsimp only at h1
      split at h1
      · rename_i hn
        split at h1
        · rename_i d e
          obtain ⟨X, hf⟩ := hno n f hn
          have hg1 := l1.g.trans hg
          cases r1 with
          | exn _ => simp at e
          | exd k1 k2 r =>
            rw [hg1] at k1
            obtain ⟨v, hv, rv⟩ := zip_look r e
            exact ⟨_, _, _, _, v, rfl, X, hf, w1.x _ _ k1, w1.x _ _ k2, hv, h1.ok w1 rv⟩
        · exact h1.elim
      · exact h1.elim
    | _ => exact h1.elim⟩
/-! ### calls -/
def pm (idx : List Nat) {α : Type} (l : List α) : List α := idx.filterMap fun i => l[i]?
theorem pm_rp {ω : Wd} {vs : List V} {ds : List Dt} (r : RpL ω vs ds) : ∀ idx : List Nat, RpL ω (pm idx vs) (pm idx ds)
  | [] => .nil
  | i :: idx => by
    unfold pm
    rw [List.filterMap_cons, List.filterMap_cons]
    have ih := pm_rp r idx
    cases e : ds[i]? with
    | none =>
      have : vs[i]? = none := by
        rw [List.getElem?_eq_none_iff] at e ⊢
        rw [r.len]
        exact e
      rw [this]
      exact ih
    | some d =>
      obtain ⟨v, hv, rv⟩ := r.get e
      rw [hv]
      exact .cons rv ih
theorem pm_vals {vs : List V} {us : List Value} (r : Vals vs us) : ∀ idx : List Nat, Vals (pm idx vs) (pm idx us)
  | [] => .nil
  | i :: idx => by
    unfold pm
    rw [List.filterMap_cons, List.filterMap_cons]
    have ih := pm_vals r idx
    cases e : vs[i]? with
    | none =>
      rw [r.none_of e]
      exact ih
    | some d =>
      obtain ⟨v, hv, rv⟩ := r.get e
      rw [hv]
      exact .cons rv ih
/-- what a def promises: it does as the function f of data -/
def FM (Γ : Gm) (f : List Dt → Mem → R Dt) : Sp := fun vs H Q E => ∃ ω ds μ, ω.Γ = Γ ∧ RpL ω vs ds ∧ WR ω μ H ∧ GoE Rp (fun cls d _ H => E cls d H) ω [] (f ds μ) Q
def mCall (n m : Nat) (f : List Dt → Mem → R Dt) (idx : List Nat) (md : List Dt) (a k : MA) : MX := fun δ μ => (a δ μ).bind fun ds μ1 => (k δ μ1).bind fun es μ2 => if ds.length = n ∧ es.length = m then f (pm idx (ds ++ md ++ es)) μ2 else .no
theorem ev_call {n m : Nat} {f : List Dt → Mem → R Dt} {idx : List Nat} {vd : List V} {md : List Dt} (hd : ∀ ω : Wd, ω.Γ = Γ → RpL ω vd md) (ha : AV Γ W ts ms) (hk : AV Γ W tk mk) :
    EV Γ W (tCallNS n m (FM Γ f) (fun vs zs => pm idx (vs ++ vd ++ zs)) (WE W) ts tk) (mCall n m f idx md ms mk) := fun σ H Q ⟨ω, δ, μ, hg, he, hw, h⟩ =>
  ha σ H _ ⟨ω, δ, μ, hg, he, hw, h.split fun ds μ1 vs ω1 H1 l1 w1 r1 h1 => hk σ H1 _ ⟨ω1, δ, μ1, l1.g.trans hg, he.mono l1, w1, h1.split fun es μ2 zs ω2 H2 l2 w2 r2 h2 => by
    split at h2
    · rename_i hl
      have hg2 := l2.g.trans (l1.g.trans hg)
      refine ⟨by rw [r1.len]; exact hl.1, by rw [r2.len]; exact hl.2, ω2, _, μ2, hg2, pm_rp (((r1.mono l2).app (hd ω2 hg2)).app r2) idx, w2, ?_⟩
      revert h2
      cases f (pm idx (ds ++ md ++ es)) μ2 with
      | ok d μ => exact fun h2 => h2
      | ex n ns es μ => exact fun h2 => h2
      | no => exact fun h2 => h2
    · exact h2.elim⟩⟩
end
/-- a def of the text, as it promises -/
structure DefM (P : Program) (w : World) (K : PySem.W.Frag) (mg : Str → Option Value) (base : Heap) (x : Str) (st : Stmt) (k : Nat) (ps : List Str) (kws : List (Str × V)) (sp : Sp) : Prop where
  ex : ∃ f fd, FunD K x x (defArgs st) (defBody st) (defScope st) [] kws f fd ∧ FnOk P w K mg base (L2.CX P w) k f fd ps sp ∧ mg x = some (.ref f)
section
variable {X : Cx} {k n : Nat} {ps ks : List Str} {sp : Sp} {x : Str} {p pos : Pos} {e : Expr} {es : List Expr} {kws : List Keyword} {t tk : TA} {st : Stmt} {kd : List (Str × V)} {W : WX}
theorem pe_dM (D : DefM X.prog X.w X.K X.mg X.base x st k ps kd sp) (n : Nat) (ks : List Str) (ms : List (Str × V)) (idx : List Nat) (hms : ∀ q ∈ ms, q ∈ kd)
    (h : ∀ (dk doc pm' : Value) (D : Addr) (an : Option Addr) (cdv ct : Value) (us mv ws : List Value), (kd ≠ [] → dk = .ref D) → us.length = n → mv.length = ms.length → ws.length = ks.length →
      KwChain D ((ms.map (·.1)).zip mv) (bindArgs (PySem.W.fnOf x x (defArgs st) (defBody st) (defScope st) .none dk doc pm' an cdv ct) ⟨us, ks.zip ws⟩) (ps.zip (pm idx (us ++ mv ++ ws))))
    (hr : Room k X.A) (tk' : Takes X W) (hg : Gl X x) (ha : PA X (e :: es) t) (hkw : PK X kws tk) (hall : (backToKw pos (keywordEach kws X.env)).all (·.1.isSome) = true := by rfl) (hks : (backToKw pos (keywordEach kws X.env)).filterMap (·.1) = ks := by rfl)
    (hdb : (x == ("__debug__" : Str)) = false := by decide) (he : starEach (e :: es) X.env = (false, eval e X.env) :: starEach es X.env := by rfl)
    (hpl : ((backTo pos (starEach (e :: es) X.env)).any (·.1) || (backToKw pos (keywordEach kws X.env)).any (·.1.isNone)) = false := by rfl) :
    PE X (.Call (.Name x p) (e :: es) kws pos) (tCallNS n ks.length sp (fun vs zs => pm idx (vs ++ ms.map (·.2) ++ zs)) (WE W) t tk) := by
  obtain ⟨f, fd, F, G, gm⟩ := D.ex
  obtain ⟨mv, hb⟩ := FunD.kbinds0 F n ks ms (fun us ms ws => pm idx (us ++ ms ++ ws)) hms (fun r1 r2 r3 => pm_vals ((r1.append r2).append r3) idx) h
  exact pe_callNS G hr hg gm F.kp hb (fun σ => passAt tk' σ) ha hkw hall hks hdb he hpl
theorem pe_dM0 (D : DefM X.prog X.w X.K X.mg X.base x st k ps kd sp) (ks : List Str) (ms : List (Str × V)) (idx : List Nat) (hms : ∀ q ∈ ms, q ∈ kd)
    (h : ∀ (dk doc pm' : Value) (D : Addr) (an : Option Addr) (cdv ct : Value) (us mv ws : List Value), (kd ≠ [] → dk = .ref D) → us.length = 0 → mv.length = ms.length → ws.length = ks.length →
      KwChain D ((ms.map (·.1)).zip mv) (bindArgs (PySem.W.fnOf x x (defArgs st) (defBody st) (defScope st) .none dk doc pm' an cdv ct) ⟨us, ks.zip ws⟩) (ps.zip (pm idx (us ++ mv ++ ws))))
    (hr : Room k X.A) (tk' : Takes X W) (hg : Gl X x) (hkw : PK X kws tk) (hall : (backToKw pos (keywordEach kws X.env)).all (·.1.isSome) = true := by rfl) (hks : (backToKw pos (keywordEach kws X.env)).filterMap (·.1) = ks := by rfl)
    (hdb : (x == ("__debug__" : Str)) = false := by decide)
    (hpl : ((backTo pos (starEach [] X.env)).any (·.1) || (backToKw pos (keywordEach kws X.env)).any (·.1.isNone)) = false := by rfl) :
    PE X (.Call (.Name x p) [] kws pos) (tCallNS 0 ks.length sp (fun vs zs => pm idx (vs ++ ms.map (·.2) ++ zs)) (WE W) tNil tk) := by
  obtain ⟨f, fd, F, G, gm⟩ := D.ex
  obtain ⟨mv, hb⟩ := FunD.kbinds0 F 0 ks ms (fun us ms ws => pm idx (us ++ ms ++ ws)) hms (fun r1 r2 r3 => pm_vals ((r1.append r2).append r3) idx) h
  exact pe_callNS0 G hr hg gm F.kp hb (fun σ => passAt tk' σ) hkw hall hks hdb hpl
theorem pe_dMP (D : DefM X.prog X.w X.K X.mg X.base x st k ps kd sp) (n : Nat) (ms : List (Str × V)) (idx : List Nat) (hms : ∀ q ∈ ms, q ∈ kd)
    (h : ∀ (dk doc pm' : Value) (D : Addr) (an : Option Addr) (cdv ct : Value) (us mv ws : List Value), (kd ≠ [] → dk = .ref D) → us.length = n → mv.length = ms.length → ws.length = 0 →
      KwChain D ((ms.map (·.1)).zip mv) (bindArgs (PySem.W.fnOf x x (defArgs st) (defBody st) (defScope st) .none dk doc pm' an cdv ct) ⟨us, []⟩) (ps.zip (pm idx (us ++ mv ++ ws))))
    (hr : Room k X.A) (tk' : Takes X W) (hg : Gl X x) (ha : PA X (e :: es) t)
    (hdb : (x == ("__debug__" : Str)) = false := by decide) (he : starEach (e :: es) X.env = (false, eval e X.env) :: starEach es X.env := by rfl) (hpl : (backTo pos (starEach es X.env)).any (·.1) = false := by rfl) :
    PE X (.Call (.Name x p) (e :: es) [] pos) (tCallNS n 0 sp (fun vs zs => pm idx (vs ++ ms.map (·.2) ++ zs)) (WE W) t tNil) := by
  obtain ⟨f, fd, F, G, gm⟩ := D.ex
  obtain ⟨mv, hb⟩ := FunD.kbinds0 F n [] ms (fun us ms ws => pm idx (us ++ ms ++ ws)) hms (fun r1 r2 r3 => pm_vals ((r1.append r2).append r3) idx) (fun dk doc pm D an cdv ct us mv ws => h dk doc pm D an cdv ct us mv ws)
  exact pe_callNP G hr hg gm F.kp hb (fun σ => passAt tk' σ) ha hdb he hpl
end
/-! ### a def's own -/
def O.out (o : O) : R Dt := match o with
  | .nx _ μ' => .ok .non μ'
  | .rt d μ' => .ok d μ'
  | .ex n ns es _ μ' => .ex n ns es μ'
  | _ => .no
@[simp] theorem out_nx {δ : Env} {μ : Mem} : (O.nx δ μ).out = .ok .non μ := rfl
@[simp] theorem out_rt {d : Dt} {μ : Mem} : (O.rt d μ).out = .ok d μ := rfl
@[simp] theorem out_ex {n : Nat} {ns : List Str} {es : List Dt} {δ : Env} {μ : Mem} : (O.ex n ns es δ μ).out = .ex n ns es μ := rfl
def mDef (N np : Nat) (b : MS) : List Dt → Mem → R Dt := fun ds μ => if ds.length = np then (b (ds.map some ++ List.replicate (N - np) none) μ).out else .no
theorem mDef_eq {N np : Nat} {b : MS} {ds : List Dt} {μ : Mem} (h : ds.length = np) : mDef N np b ds μ = (b (ds.map some ++ List.replicate (N - np) none) μ).out := if_pos h
section
variable {P : Program} {w : World} {K : PySem.W.Frag} {mg : Str → Option Value} {base : Heap}
theorem okM {Γ : Gm} {x : Str} {st : Stmt} {f : Addr} {fd : FuncData} {N ps : List Str} {k : Nat} {b : MS} {kws : List (Str × V)} (F : FunD K x x (defArgs st) (defBody st) (defScope st) [] kws f fd) (S : FnScope N ps (defScope st))
    (hbody : ∀ (cdv : Value) (A : Around) (outer : List PySem.Env) (s : Shared) (H : Hp) (E : XK), Room k (A.deeper (envOfC x (defScope st) s.heap.objs.size f cdv)) →
      ∃ t, PSs (cxOf (L2.CX P w) P w K mg base N x (defScope st) f cdv A outer s H E) (defBody st) t ∧ SV Γ (fun cls d _ H => E cls d H) t b) :
    FnOk P w K mg base (L2.CX P w) (k + 1) f fd ps (FM Γ (mDef N.length ps.length b)) :=
  F.ok S (fun vs H Q E ⟨ω, ds, μ, hg, r, hw, h⟩ => by
    unfold mDef at h
    split at h
    · rename_i hl
      rw [r.len]
      exact hl
    · exact h.elim) fun cdv A outer s H vs Q E hr ⟨ω, ds, μ, hg, r, hw, h⟩ => by
    obtain ⟨t, h1, hq⟩ := hbody cdv A outer s H E hr
    refine ⟨t, h1, hq _ _ H ⟨ω, _, μ, hg, EnvR.start r N, hw, ?_⟩⟩
    unfold mDef at h
    split at h
    · rename_i hl
      rw [← hl] at h
      revert h
      cases b (ds.map some ++ List.replicate (N.length - ds.length) none) μ with
      | nx δ' μ' => exact fun h σ' ω' H' l w' e' => h .non ω' H' l w' .non
      | rt d μ' => exact fun h => h
      | bk δ' μ' => exact fun h => h.elim
      | ct δ' μ' => exact fun h => h.elim
      | ex n ns es δ' μ' => exact fun h dd σ' ω' H' l w' e' x => h dd ω' H' l w' x
      | no => exact fun h => h
    · exact h.elim
theorem funD_of {x : Str} {st : Stmt} {f : Addr} {fd : FuncData} (F : Fun K x x st f fd) : FunD K x x (defArgs st) (defBody st) (defScope st) [] [] f fd := by
  obtain ⟨oc, od, kV, doc, pm, an, cdv, ct, osl, rfl, lk, hcd⟩ := F.ex
  exact ⟨⟨oc, od, _, kV, doc, pm, an, cdv, ct, osl, rfl, lk, hcd, .inl ⟨rfl, rfl⟩, .inl rfl⟩, F.kp⟩
theorem funD_mk {x : Str} {st : Stmt} {f D : Addr} {oc : Value} {od an : Option Addr} {osl : Array (Option Value)} {doc pm cdv ct : Value} {kws : List (Str × V)} (l : K.lookup f = some ⟨oc, od, .func (PySem.W.fnOf x x (defArgs st) (defBody st) (defScope st) .none (.ref D) doc pm an cdv ct), osl⟩)
    (c : PySem.W.codeIn K cdv x = true) (k : PySem.W.keepIn K (.ref f) = true) (h : ∀ q ∈ kws, ∃ u, PySem.W.nsIn K D q.1 = some (some u) ∧ RelV q.2 u) :
    FunD K x x (defArgs st) (defBody st) (defScope st) [] kws f (PySem.W.fnOf x x (defArgs st) (defBody st) (defScope st) .none (.ref D) doc pm an cdv ct) :=
  ⟨⟨oc, od, _, _, doc, pm, an, cdv, ct, osl, rfl, l, c, .inl ⟨rfl, rfl⟩, .inr ⟨D, rfl, h⟩⟩, k⟩
/-- a def that lets nothing out -/
theorem FnOk.to0 {k : Nat} {f : Addr} {fd : FuncData} {ps : List Str} {sp sp' : Sp} (F : FnOk P w K mg base (L2.CX P w) k f fd ps sp) (h : ∀ vs H Q E, sp' vs H Q E → sp vs H Q E0) : FnOk P w K mg base CX0 k f fd ps sp' where
  len := fun vs H Q E q => F.len vs H Q E0 (h vs H Q E q)
  run := fun A outer s H args us vs Q E hr e0 hb r q => codeAny_mono (F.run A outer s H args us vs Q E0 hr e0 hb r (h vs H Q E q)) fun res s' z => by
    cases res with
    | error e =>
      obtain ⟨_, _, _, _, _, _, _, _, _, _, _, _, zz⟩ := (show L2.CX P w outer H s E0 e s' from z)
      exact zz.elim
    | ok fl => cases fl <;> exact z
end
/-! ### raise, try -/
def sRaise0 (n : Nat) : MS := fun δ μ => .ex n [] [] δ μ
section
variable {Γ : Gm} {W : WX} {K : PySem.W.Frag}
theorem sv_raise0 {n : Nat} : SV Γ W (fun _ σ H => (fun _ H (Q : XK) => Q (.ref (Γ.c n)) none H) σ H fun cls d H' => W cls d σ H') (sRaise0 n) := fun D σ H ⟨ω, δ, μ, hg, he, hw, h⟩ => by
  subst hg
  exact h none σ ω H (Le.refl _) hw he (.inl ⟨rfl, rfl, rfl⟩)
def sTry (cq : Nat → Option Bool) (i : Nat) (b s : MS) : MS := fun δ μ => match b δ μ with
  | .ex n ns es δ' μ' => match cq n with
    | some true => (match s (δ'.set i (some (.exc n ns es))) μ' with
      | .nx δ2 μ2 => .nx (δ2.set i none) μ2
      | .bk δ2 μ2 => .bk (δ2.set i none) μ2
      | .ct δ2 μ2 => .ct (δ2.set i none) μ2
      | .rt d μ2 => .rt d μ2
      | _ => .no)
    | some false => .ex n ns es δ' μ'
    | none => .no
  | o => o
theorem RX.rp {ω : Wd} {d : Option Addr} {a : Addr} {n : Nat} {ns : List Str} {es : List Dt} (r : RX ω d ns es) (h : ω.B a = some (exK (.ref (ω.Γ.c n)) d a)) : Rp ω (.ref a) (.exc n ns es) := by
  rcases r with ⟨rfl, rfl, rfl⟩ | ⟨dd, vs, rfl, r2, r3⟩
  · exact .exn h
  · exact .exd h r2 r3
theorem RX.mono {ω ω' : Wd} {d : Option Addr} {ns : List Str} {es : List Dt} (r : RX ω d ns es) (l : Le ω ω') : RX ω' d ns es := by
  rcases r with r | ⟨dd, vs, r1, r2, r3⟩
  · exact .inl r
  · exact .inr ⟨dd, vs, r1, l.b _ _ r2, r3.mono l⟩
theorem sv_try {cv : Value} {cq : Nat → Option Bool} {i : Nat} {tb : WX → TS} {ts : TS} {b s : MS} (hq : ∀ n k, cq n = some k → PySem.W.exmOne K (.ref (Γ.c n)) cv = some k) (hb : ∀ W, SV Γ W (tb W) b) (hs : SV Γ W0 ts s) :
    SV Γ W (fun D σ H => tb (wKeep K cv i ts W D) D σ H) (sTry cq i b s) := fun D σ H ⟨ω, δ, μ, hg, he, hw, h⟩ => hb _ D σ H ⟨ω, δ, μ, hg, he, hw, by
  unfold sTry at h
  cases eb : b δ μ with
  | nx δ' μ' => rw [eb] at h; exact h
  | rt d μ' => rw [eb] at h; exact h
  | bk δ' μ' => rw [eb] at h; exact h
  | ct δ' μ' => rw [eb] at h; exact h
  | no => rw [eb] at h; exact h
  | ex n ns es δ' μ' =>
    rw [eb] at h
    intro dd σ' ω' H' l w e x
    cases ec : cq n with
    | none =>
      simp only [ec] at h
      exact h.elim
    | some k =>
      simp only [ec] at h
      refine ⟨k, by rw [hg]; exact hq n k ec, fun hk a na => ?_, fun hk => ?_⟩
      · subst hk
        obtain ⟨l2, w2⟩ := w.newB (u := exK (.ref (ω.Γ.c n)) dd a) na
        have r2 : Rp { ω' with B := upd ω'.B a (exK (.ref (ω.Γ.c n)) dd a) } (.ref a) (.exc n ns es) := (x.mono l2).rp (by rw [show ({ ω' with B := upd ω'.B a (exK (.ref (ω.Γ.c n)) dd a) } : Wd).Γ = ω.Γ from l.g]; exact upd_same)
        refine hs _ _ _ ⟨_, _, _, (l.trans l2).g.trans hg, (e.mono l2).set i r2, w2, ?_⟩
        have h : GoS W ω (match s (δ'.set i (some (.exc n ns es))) μ' with
          | .nx δ2 μ2 => .nx (δ2.set i none) μ2
          | .bk δ2 μ2 => .bk (δ2.set i none) μ2
          | .ct δ2 μ2 => .ct (δ2.set i none) μ2
          | .rt d μ2 => .rt d μ2
          | _ => .no) D := h
        have h := GoS.mono h (l.trans l2)
        revert h
        cases s (δ'.set i (some (.exc n ns es))) μ' with
        | nx δ2 μ2 => exact fun h σ3 ω3 H3 l3 w3 e3 => h _ ω3 H3 l3 w3 (e3.unset i)
        | bk δ2 μ2 => exact fun h σ3 ω3 H3 l3 w3 e3 => h _ ω3 H3 l3 w3 (e3.unset i)
        | ct δ2 μ2 => exact fun h σ3 ω3 H3 l3 w3 e3 => h _ ω3 H3 l3 w3 (e3.unset i)
        | rt d μ2 => exact fun h => h
        | ex n ns es δ2 μ2 => exact fun h => h.elim
        | no => exact fun h => h.elim
      · subst hk
        exact h dd σ' ω' H' l w e x⟩
end
end DM

set_option linter.all false
set_option maxRecDepth 100000
set_option maxHeartbeats 4000000
/-! DM6: the rules whose readings name the written part K, with K told. -/
namespace DM
open PySem PySem.Spec PyProof.Rows L2
/-- a module's constant -/
def GC (mg : Str → Option Value) (x : Str) (v : V) : Prop := ∃ u, mg x = some u ∧ RelV v u
theorem pe_gc {X : Cx} {x : Str} {v : V} {pos : Pos} (h : GC X.mg x v) (hg : Gl X x) (hd : (x == ("__debug__" : Str)) = false := by decide) : PE X (.Name x pos) (tC v) := by
  obtain ⟨u, hm, r⟩ := h
  exact pe_glob hg hm r hd
section
variable {X : Cx} {K : PySem.W.Frag}
theorem k_isiT (hK : X.K = K) : CallR X (.builtin "isinstance") (rIsiT K) := hK ▸ call_isiT
theorem k_ix (hK : X.K = K) : IxR X (rIx K) := hK ▸ ix_seq
theorem k_sortedS (hK : X.K = K) : CallR X (.builtin "sorted") (rSortedS K) := hK ▸ cr_sortedS
theorem k_pi_list (hK : X.K = K) {tg l : Expr} {tl : TE} (hl : PE X l tl) : PI X tg l (iList K tl) := hK ▸ pi_list hl
theorem k_pi_tup (hK : X.K = K) {tg l : Expr} {tl : TE} (hl : PE X l tl) : PI X tg l (iTup K tl) := hK ▸ pi_tup hl
theorem k_pg_tup (hK : X.K = K) {es : List Expr} {k : Nat} {t : TGs} {n : Nat} {pos : Pos} (hc : X.calm = true) (h : PGs X es t)
    (hn : (assignEach es X.env).length = n := by rfl) (hst : (assignEach es X.env).findIdx? (·.1) = none := by rfl) : PG X (.Tuple es k pos) (gTup K n t) := hK ▸ pg_tup hc h hn hst
theorem k_pg_unl (hK : X.K = K) {es : List Expr} {k : Nat} {t : TGs} {n : Nat} {pos : Pos} (hc : X.calm = true) (h : PGs X es t)
    (hn : (assignEach es X.env).length = n := by rfl) (hst : (assignEach es X.env).findIdx? (·.1) = none := by rfl) : PG X (.Tuple es k pos) (gUnl K n t) := hK ▸ pg_unl hc h hn hst
theorem k_fld (hK : X.K = K) {e : Expr} {f : Str} {pos : Pos} {ta : TE} (he : PE X e ta) (hb : attributeBase e f X.env (eval e X.env) = eval e X.env) : PE X (.Attribute e f pos) (tFld K ta f) := hK ▸ pe_fld he hb
theorem k_sfld (hK : X.K = K) {o value : Expr} {f : Str} {pos pos' : Pos} {ta tv : TE} (ha : PE X o ta) (hv : PE X value tv) (hs : swapsWith value (some (.Attribute o f pos')) pos.line X.env = pure false) : PS X (.Assign [.Attribute o f pos'] value pos) (sFld K ta tv f) := hK ▸ ps_fld ha hv hs
theorem k_pi_zip (hK : X.K = K) {e e2 : Expr} {ta : TA} {p pos tpos : Pos} {elts : List Expr} {kk : Nat} (hg : Gl X "zip") (hm : X.mg "zip" = none) (ha : PA X [e, e2] ta)
    (hs : starEach [e, e2] X.env = (false, eval e X.env) :: starEach [e2] X.env := by rfl) (hpl : (backTo pos (starEach [e2] X.env)).any (·.1) = false := by rfl) :
    PI X (.Tuple elts kk tpos) (.Call (.Name "zip" p) [e, e2] [] pos) (iZip K ta) := hK ▸ pi_zip hg hm ha hs hpl
theorem k_pi_enum (hK : X.K = K) {e : Expr} {ta : TA} {p pos tpos : Pos} {elts : List Expr} {kk : Nat} (hg : Gl X "enumerate") (hm : X.mg "enumerate" = none) (ha : PA X [e] ta) (hs : starEach [e] X.env = [(false, eval e X.env)] := by rfl) :
    PI X (.Tuple elts kk tpos) (.Call (.Name "enumerate" p) [e] [] pos) (iEnum K ta) := hK ▸ pi_enum hg hm ha hs
variable {o e : Expr} {es : List Expr} {to : TE} {t : TA} {name : Str} {apos cpos : Pos} {T id : String} {r : V → List V → Hp → VK → Prop}
theorem k_bm0 (hK : X.K = K) (pa : PlainAttrs T) (slot : Slot T name id) (hty : typeOf (.builtin id) = pure (.type "method_descriptor")) (hm : MtR X id r) (ho : PE X o to)
    (hbase : attributeBase o name X.env (eval o X.env) = eval o X.env := by rfl) (hline : (apos.endLine == cpos.line) = true := by rfl) : PE X (.Call (.Attribute o name apos) [] [] cpos) (tBM0 K T r to) := hK ▸ pe_bm0 pa slot hty hm ho hbase hline
theorem k_bm (hK : X.K = K) (pa : PlainAttrs T) (slot : Slot T name id) (hty : typeOf (.builtin id) = pure (.type "method_descriptor")) (hm : MtR X id r) (ho : PE X o to) (ha : PA X (e :: es) t)
    (hbase : attributeBase o name X.env (eval o X.env) = eval o X.env := by rfl)
    (hfew : ((backTo cpos (starEach (e :: es) X.env)).all (fun x => !x.1) && (backToKw cpos (keywordEach [] X.env)).all (fun x => x.1.isSome)
      && decide ((e :: es).length + ([] : List Keyword).length + (if ([] : List Keyword).isEmpty then 0 else 1) < 30)) = true := by rfl)
    (hline : (apos.endLine == cpos.line) = true := by rfl) (hs : starEach (e :: es) X.env = (false, eval e X.env) :: starEach es X.env := by rfl) (hplain : (backTo cpos (starEach es X.env)).any (·.1) = false := by rfl) :
    PE X (.Call (.Attribute o name apos) (e :: es) [] cpos) (tBM K T r to t) := hK ▸ pe_bm pa slot hty hm ho ha hbase hfew hline hs hplain
end
/-- such a table, by rows -/
def tabOf (xs : List Nat) (os : List (Nat × Nat × Bool)) (ts : List (Nat × String × Bool)) : Tab := fun n c => match c with
  | .cls m => (os.find? fun r => r.1 == n && r.2.1 == m).map (·.2.2)
  | .ty T => (ts.find? fun r => r.1 == n && r.2.1 == T).map (·.2.2)
  | _ => none
theorem tabOf_ok {K : PySem.W.Frag} {Γ : Gm} {xs : List Nat} {os : List (Nat × Nat × Bool)} {ts : List (Nat × String × Bool)} (h : ∀ n, n ∈ xs → ExC K (Γ.c n)) (h1 : ∀ r ∈ os, r.1 ∈ xs ∧ PySem.W.kitOne K (.ref (Γ.c r.1)) (.ref (Γ.c r.2.1)) = some r.2.2) (h2 : ∀ r ∈ ts, r.1 ∈ xs ∧ PySem.W.kitOne K (.ref (Γ.c r.1)) (.type r.2.1) = some r.2.2) : TabOk K Γ (tabOf xs os ts) := fun n c b e => by
  unfold tabOf at e
  split at e
  · rename_i m
    obtain ⟨r, hr, rfl⟩ := Option.map_eq_some_iff.mp e
    have hm := List.mem_of_find?_eq_some hr
    have hp := List.find?_some hr
    rw [Bool.and_eq_true] at hp
    obtain ⟨k1, k2⟩ := h1 r hm
    have e1 : r.1 = n := by simpa using hp.1
    have e2 : r.2.1 = m := by simpa using hp.2
    rw [e1] at k1 k2
    rw [e2] at k2
    exact ⟨h n k1, .inr ⟨m, rfl, k2⟩⟩
  · rename_i m
    obtain ⟨r, hr, rfl⟩ := Option.map_eq_some_iff.mp e
    have hm := List.mem_of_find?_eq_some hr
    have hp := List.find?_some hr
    rw [Bool.and_eq_true] at hp
    obtain ⟨k1, k2⟩ := h2 r hm
    have e1 : r.1 = n := by simpa using hp.1
    have e2 : r.2.1 = m := by simpa using hp.2
    rw [e1] at k1 k2
    rw [e2] at k2
    exact ⟨h n k1, .inl ⟨m, rfl, k2⟩⟩
  · cases e
/-- xs[i] = e -/
def stSub (δ : Env) (v ov iv : Dt) (μ3 : Mem) : O := match ov, iv with
  | .ptr p, .int k => match μ3[p]? with
    | some (.lst ds) => match ixN ds.length k with
      | some j => .nx δ (μ3.set p (.lst (ds.set j v)))
      | none => .no
    | _ => .no
  | _, _ => .no
def sSub (a o i : MX) : MS := fun δ μ => (a δ μ).thn δ fun v μ1 => (o δ μ1).thn δ fun ov μ2 => (i δ μ2).thn δ fun iv μ3 => stSub δ v ov iv μ3
theorem sv_sub {Γ : Gm} {W : WX} {ta to ti : TE} {ma mo mi : MX} (ha : EV Γ W ta ma) (ho : EV Γ W to mo) (hi : EV Γ W ti mi) : SV Γ W (tAsg ta (gSub to ti rSetL)) (sSub ma mo mi) := fun D σ H ⟨ω, δ, μ, hg, he, hw, h⟩ =>
  ha σ H _ ⟨ω, δ, μ, hg, he, hw, GoE.splitS (f := fun v μ1 => (mo δ μ1).thn δ fun ov μ2 => (mi δ μ2).thn δ fun iv μ3 => stSub δ v ov iv μ3) he h fun v μ1 x ω1 H1 l1 w1 r1 h1 => ho σ H1 _ ⟨ω1, δ, μ1, l1.g.trans hg, he.mono l1, w1,
    GoE.splitS (f := fun ov μ2 => (mi δ μ2).thn δ fun iv μ3 => stSub δ v ov iv μ3) (he.mono l1) h1 fun ov μ2 y ω2 H2 l2 w2 r2 h2 => hi σ H2 _ ⟨ω2, δ, μ2, l2.g.trans (l1.g.trans hg), (he.mono l1).mono l2, w2,
    GoE.splitS (f := fun iv μ3 => stSub δ v ov iv μ3) ((he.mono l1).mono l2) h2 fun iv μ3 z ω3 H3 l3 w3 r3 h3 => by
    unfold stSub at h3
    split at h3
    · rename_i p k
      split at h3
      · rename_i ds e
        split at h3
        · rename_i j ej
          cases r2 with
          | ptr hb =>
            cases r3
            obtain ⟨hB, xs, hx, rx⟩ := w3.at_ _ _ _ (l3.a _ _ hb) e
            refine ⟨_, xs, k, j, rfl, rfl, hx, by rw [rx.len]; exact ej, ?_⟩
            exact h3 σ ω3 _ (Le.refl _) (w3.put (l3.a _ _ hb) hB ⟨hB, _, upd_same, rx.set j ((r1.mono l2).mono l3)⟩) (((he.mono l1).mono l2).mono l3)
        · exact h3.elim
      · exact h3.elim
    · exact h3.elim⟩⟩⟩
/-! ### the head -/
def spLaw (K : PySem.W.Frag) : Sp := fun vs H Q _ => ∃ (a : Addr) (ns : List Int), vs = [.ref a] ∧ SqL K H a (ns.map V.int) ∧ ns.length ≤ 63 ∧ ∀ H', Q (.bl true) H'
theorem RpL.ints {ω : Wd} : ∀ (ys : List Int), RpL ω (ys.map V.int) (ys.map Dt.int)
  | [] => .nil
  | y :: ys => .cons (.int y) (RpL.ints ys)
theorem FnOk.law {P : Program} {w : World} {Γ : Gm} {mg : Str → Option Value} {base : Heap} {CX : CXT} {k : Nat} {f : Addr} {fd : FuncData} {ps : List Str} {m : List Dt → Mem → R Dt} (F : FnOk P w Γ.K mg base CX k f fd ps (FM Γ m))
    (h : ∀ ns : List Int, ns.length ≤ 63 → ∃ μ, m [.scr (ns.map Dt.int)] [] = .ok (.bl true) μ) : FnOk P w Γ.K mg base CX k f fd ps (spLaw Γ.K) := by
  have key : ∀ vs H Q E, spLaw Γ.K vs H Q E → FM Γ m vs H Q E := fun vs H Q E ⟨a, ns, e, hS, hl, q⟩ => by
    subst e
    obtain ⟨μ, hm⟩ := h ns hl
    refine ⟨⟨Γ, [], H, fun _ => none⟩, [.scr (ns.map Dt.int)], [], rfl, .cons (.scr ?_ (RpL.ints ns)) .nil, ⟨Same.refl H, rfl, fun i j a h => by simp at h, fun i a o h => by simp at h, fun a o e => (nomatch e), fun i a h => rfl, fun a o e => (nomatch e)⟩, ?_⟩
    · rcases hS with (h | ⟨o, h⟩) | h
      · exact .inl ⟨⟨.none, none, .plain, #[]⟩, .inl h⟩
      · exact .inl ⟨o, .inr h⟩
      · exact .inr h
    · rw [hm]
      intro v ω' H' _ _ r
      cases r
      exact q H'
  exact ⟨fun vs H Q E q => F.len vs H Q E (key vs H Q E q), fun A outer s H args us vs Q E hr e0 hb r q => F.run A outer s H args us vs Q E hr e0 hb r (key vs H Q E q)⟩
theorem exC_mk {K : PySem.W.Frag} {D : Addr} (cl : PySem.W.isClsIn K D = true) (hg : PySem.W.findIn K (.ref D) "__getattribute__" = some (some (.builtin "BaseException.__getattribute__"))) (hk : PySem.W.findIn K (.ref D) "__getattr__" = some none)
    (hs : PySem.W.subIn K (.ref D) (.type "BaseException") = some true) (hd : PySem.W.hasDictIn K D = true) (ha : PySem.W.findIn K (.ref D) "__class__" = some (some (.builtin "object.__class__")))
    (hn : PySem.W.specialIn K (.builtin "object.__class__") "__get__" = some (some (.builtin "getset_descriptor.__get__"))) (ht : PySem.W.takesIn K (.builtin "object.__class__") = some true) (hm : PySem.W.mroIn K D (.type "object") = some true) : ExC K D := ⟨cl, hg, hk, hs, hd, ha, hn, ht, hm⟩
theorem kit_self {K : PySem.W.Frag} {C : Addr} : PySem.W.kitOne K (.ref C) (.ref C) = some true := by
  unfold PySem.W.kitOne
  rw [if_pos (beq_self_eq_true _)]
theorem kit_other {K : PySem.W.Frag} {C D : Addr} (iD : PySem.W.isClsIn K D = true) (tD : PySem.W.typeIn K (.ref D) = some (.type "type")) (sC : PySem.W.subIn K (.ref C) (.ref C) = some true) (s : PySem.W.subIn K (.ref C) (.ref D) = some false) : PySem.W.kitOne K (.ref C) (.ref D) = some false := by
  unfold PySem.W.kitOne
  have ne : ¬ (Value.ref C == Value.ref D) = true := fun z => by
    have e := eq_of_beq z
    rw [← e, sC] at s
    cases s
  rw [if_neg ne]
  unfold PySem.W.kitCls
  have iD' : (PySem.W.clsIn K D).isSome = true := iD
  show (if ((PySem.W.clsIn K D).isSome && PySem.W.typeIn K (.ref D) == some (.type "type")) = true then PySem.W.subIn K (.ref C) (.ref D) else none) = _
  rw [iD', tD, if_pos (by rfl)]
  exact s
theorem kit_typ {K : PySem.W.Frag} {C : Addr} {T : String} {b : Bool} (hT : PySem.W.kitMeta T = true) (s : PySem.W.subIn K (.ref C) (.type T) = some b) : PySem.W.kitOne K (.ref C) (.type T) = some b := by
  unfold PySem.W.kitOne
  have ne : ¬ (Value.ref C == Value.type T) = true := fun z => by
    have e := eq_of_beq z
    cases e
  rw [if_neg ne]
  show (if PySem.W.kitMeta T = true then PySem.W.subIn K (.ref C) (.type T) else none) = _
  rw [if_pos hT]
  exact s
theorem exm_self {K : PySem.W.Frag} {S : Addr} (h1 : PySem.W.subIn K (.ref S) (.type "BaseException") = some true) (h2 : PySem.W.hasDictIn K S = true) (h3 : PySem.W.typeIn K (.ref S) = some (.type "type")) (h4 : PySem.W.subIn K (.ref S) (.ref S) = some true) :
    PySem.W.exmOne K (.ref S) (.ref S) = some true := PySem.W.exm_ref h1 h2 h3 h4
def cqSelf (k : Nat) : Nat → Option Bool := fun n => if n = k then some true else none
theorem cqSelf_ok {K : PySem.W.Frag} {Γ : Gm} {k : Nat} (h : PySem.W.exmOne K (.ref (Γ.c k)) (.ref (Γ.c k)) = some true) : ∀ n b, cqSelf k n = some b → PySem.W.exmOne K (.ref (Γ.c n)) (.ref (Γ.c k)) = some b := fun n b e => by
  unfold cqSelf at e
  split at e
  · rename_i hn
    cases e
    rw [hn]
    exact h
  · cases e
end DM

set_option linter.all false
set_option maxRecDepth 100000
set_option maxHeartbeats 4000000
/-! DM7: own classes: fields, instances that are made, methods. -/
namespace DM
open PySem PySem.Spec PyProof.Rows L2
open Classical
/-! ### fields -/
def putD (f : Str) (d : Dt) : List (Str × Dt) → List (Str × Dt)
  | [] => [(f, d)]
  | (g, x) :: r => if g = f then (g, d) :: r else (g, x) :: putD f d r
theorem RpK.put {ω : Wd} {f : Str} {v : V} {d : Dt} (hv : Rp ω v d) {vs : List (Str × V)} {ds : List (Str × Dt)} (r : RpK ω vs ds) : RpK ω (putF f v vs) (putD f d ds) := by
  induction r with
  | nil => exact .cons hv .nil
  | @cons k u e vs ds a r ih =>
    unfold putF putD
    by_cases h : k = f
    · rw [if_pos h, if_pos h]
      exact .cons hv r
    · rw [if_neg h, if_neg h]
      exact .cons a ih
theorem RpK.look {ω : Wd} {f : Str} {vs : List (Str × V)} {ds : List (Str × Dt)} (r : RpK ω vs ds) : ∀ {d : Dt}, ds.lookup f = some d → ∃ v, vs.lookup f = some v ∧ Rp ω v d := by
  induction r with
  | nil => intro d h; cases h
  | @cons k u e vs ds a r ih =>
    intro d h
    rw [List.lookup_cons] at h ⊢
    cases q : (f == k) with
    | true =>
      rw [q] at h
      cases h
      exact ⟨u, rfl, a⟩
    | false =>
      rw [q] at h
      exact ih h
theorem RpK.look0 {ω : Wd} {f : Str} {vs : List (Str × V)} {ds : List (Str × Dt)} (r : RpK ω vs ds) : ds.lookup f = none → vs.lookup f = none := by
  induction r with
  | nil => intro _; rfl
  | @cons k u e vs ds a r ih =>
    intro h
    rw [List.lookup_cons] at h ⊢
    cases q : (f == k) with
    | true =>
      rw [q] at h
      cases h
    | false =>
      rw [q] at h
      exact ih h
theorem RpK.len {κ : Type} {ω : Wd} {vs : List (κ × V)} {ds : List (κ × Dt)} (r : RpK ω vs ds) : vs.length = ds.length := by
  induction r with
  | nil => rfl
  | cons _ _ ih => exact congrArg Nat.succ ih
/-- the classes whose instances have the field f by themselves -/
def InsOk (K : PySem.W.Frag) (Γ : Gm) (no : Nat → Str → Bool) : Prop := ∀ n f, no n f = true → Cls K (Γ.c n) ∧ NoAttr K (Γ.c n) f
/-- e.f, of an instance or a kept error -/
def tFldU (K : PySem.W.Frag) (f : Str) (te : TE) : TE := fun σ H Q => te σ H fun x H1 =>
  (∃ a C dx fs v, x = .ref a ∧ H1 a = some (.ins C dx fs) ∧ Cls K C ∧ NoAttr K C f ∧ fs.lookup f = some v ∧ Q v H1) ∨
  ∃ (a C dd : Addr) (fs : List (Str × V)) (v : V), x = .ref a ∧ ExC K C ∧ PySem.W.findIn K (.ref C) f = some none ∧ H1 a = some (exK (.ref C) (some dd) a) ∧ H1 dd = some (.xd fs) ∧ fs.lookup f = some v ∧ Q v H1
theorem k_fldU {X : Cx} {K : PySem.W.Frag} (hK : X.K = K) {e : Expr} {te : TE} {pos : Pos} {n : Str} (he : PE X e te) (hb : attributeBase e n X.env (eval e X.env) = eval e X.env := by rfl) : PE X (.Attribute e n pos) (tFldU K n te) := by
  subst hK
  refine ⟨fun pins s σ H Q I h => ?_⟩
  refine attr_of hb (thn (he.run pins s σ H _ I h) fun u s1 hh => ?_)
  obtain ⟨x, H1, I1, rx, hh⟩ := hh
  rcases hh with ⟨a, C, dx, fs, v, ex, ea, c, no, l, q⟩ | ⟨a, C, dd, fs, v, ex, T, hno, ha, ea, l, q⟩
  · subst ex
    obtain rfl : u = Value.ref a := rx
    exact getattr_ok I1 ea c no l fun w s2 I2 rw' => ⟨v, H1, I2, rw', q⟩
  · subst ex
    obtain rfl : u = Value.ref a := rx
    obtain ⟨oe, vs, hget, hz, hd⟩ := exK_at I1.hok ha
    have hx : ObjOk X.prog X.w H1 s1.heap dd (.xd fs) := I1.hok dd _ ea
    obtain ⟨mA, hns, hr⟩ := hx
    obtain ⟨od, ho, hl⟩ := lookIn_ns hns
    obtain ⟨u, hu, ru⟩ := RelO.some_of (v := v) (o := mA n) (by rw [← l]; exact hr n)
    have J : PySem.W.InstAt s1.heap a oe C (some od) := ⟨hget, hz.1, by unfold PySem.W.notCls; rw [hd] <;> rfl, by rw [hz.2]; exact ho⟩
    exact HandSPX.exc_get I1.kIn J T.hg T.hk T.hs (PySem.W.findObj_own T.hd hno rfl (by rw [hl, hu])) (handed_of ru) ⟨v, H1, I1.tok _, ru, q⟩
def oFld (nx ni : Nat → Str → Bool) (f : Str) (d : Dt) (μ : Mem) : R Dt := match d with
  | .exc n ns es => if nx n f = true then (match (ns.zip es).lookup f with
    | some d => .ok d μ
    | none => .no) else .no
  | .ptr i => match μ[i]? with
    | some (.ins n fs) => if ni n f = true then (match fs.lookup f with
      | some d => .ok d μ
      | none => .no) else .no
    | _ => .no
  | _ => .no
section
variable {Γ : Gm} {W : WX} {K : PySem.W.Frag} {ta tv : TE} {ma mv : MX} {ts tk : TA} {ms mk : MA}
theorem ev_fldU {nx ni : Nat → Str → Bool} {f : Str} (hnx : NoOk K Γ nx) (hni : InsOk K Γ ni) (ha : EV Γ W ta ma) : EV Γ W (tFldU K f ta) (mUn (oFld nx ni f) ma) := fun σ H Q ⟨ω, δ, μ, hg, he, hw, h⟩ =>
  ha σ H _ ⟨ω, δ, μ, hg, he, hw, GoE.split (f := oFld nx ni f) h fun a μ1 x ω1 H1 l1 w1 r1 h1 => by
    have hg1 := l1.g.trans hg
    cases a with
    | exc n ns es =>
      unfold oFld at h1
      dsimp only at h1
      split at h1
      · rename_i hn
        split at h1
        · rename_i d e
          obtain ⟨X, hf⟩ := hnx n f hn
          cases r1 with
          | exn _ => simp at e
          | exd k1 k2 r =>
            rw [hg1] at k1
            obtain ⟨v, hv, rv⟩ := zip_look r e
            exact .inr ⟨_, _, _, _, v, rfl, X, hf, w1.x _ _ k1, w1.x _ _ k2, hv, h1.ok w1 rv⟩
        · exact h1.elim
      · exact h1.elim
    | ptr i =>
      unfold oFld at h1
      dsimp only at h1
      split at h1
      · rename_i n fs e
        split at h1
        · rename_i hn
          split at h1
          · rename_i d el
            obtain ⟨c, no⟩ := hni n f hn
            cases r1 with
            | ptr hb =>
              obtain ⟨_, dx, vs, hx, rk⟩ := w1.at_ _ _ _ hb e
              rw [hg1] at hx
              obtain ⟨v, hv, rv⟩ := rk.look el
              exact .inl ⟨_, _, _, _, v, rfl, hx, c, no, hv, h1.ok w1 rv⟩
          · exact h1.elim
        · exact h1.elim
      · exact h1.elim
    | _ => exact h1.elim⟩
/-- e.f = value -/
def sFldM (ni : Nat → Str → Bool) (f : Str) (a o : MX) : MS := fun δ μ => (a δ μ).thn δ fun y μ1 => (o δ μ1).thn δ fun x μ2 => match x with
  | .ptr i => match μ2[i]? with
    | some (.ins n fs) => if ni n f = true ∧ fs.length < 1000 then .nx δ (μ2.set i (.ins n (putD f y fs))) else .no
    | _ => .no
  | _ => .no
theorem k_fldS {X : Cx} (hK : X.K = K) {o value : Expr} {f : Str} {pos pos' : Pos} (ha : PE X o ta) (hv : PE X value tv) (hs : swapsWith value (some (.Attribute o f pos')) pos.line X.env = pure false := by rfl) : PS X (.Assign [.Attribute o f pos'] value pos) (sFld K ta tv f) := hK ▸ ps_fld ha hv hs
theorem sv_fld {ni : Nat → Str → Bool} {f : Str} (hni : InsOk K Γ ni) (hv : EV Γ W tv mv) (ha : EV Γ W ta ma) : SV Γ W (sFld K ta tv f) (sFldM ni f mv ma) := fun D σ H ⟨ω, δ, μ, hg, he, hw, h⟩ =>
  hv σ H _ ⟨ω, δ, μ, hg, he, hw, GoE.splitS (f := fun y μ1 => (ma δ μ1).thn δ fun x μ2 => match x with
    | .ptr i => match μ2[i]? with
      | some (.ins n fs) => if ni n f = true ∧ fs.length < 1000 then .nx δ (μ2.set i (.ins n (putD f y fs))) else .no
      | _ => .no
    | _ => .no) he h fun y μ1 v ω1 H1 l1 w1 r1 h1 => ha σ H1 _ ⟨ω1, δ, μ1, l1.g.trans hg, he.mono l1, w1, GoE.splitS (f := fun x μ2 => match x with
    | .ptr i => match μ2[i]? with
      | some (.ins n fs) => if ni n f = true ∧ fs.length < 1000 then .nx δ (μ2.set i (.ins n (putD f y fs))) else .no
      | _ => .no
    | _ => .no) (he.mono l1) h1 fun x μ2 u ω2 H2 l2 w2 r2 h2 => by
    cases r2 with
    | ptr hb =>
      dsimp only at h2
      split at h2
      · rename_i n fs e
        split at h2
        · rename_i hc
          obtain ⟨hB, dx, vs, hx, rk⟩ := w2.at_ _ _ _ hb e
          obtain ⟨c, no⟩ := hni n f hc.1
          have hg2 := l2.g.trans (l1.g.trans hg)
          refine ⟨_, _, dx, vs, rfl, hx, by rw [hg2]; exact c, by rw [hg2]; exact no, by rw [rk.len]; exact hc.2, ?_⟩
          exact h2 σ ω2 _ (Le.refl _) (w2.put hb hB ⟨hB, dx, _, upd_same, rk.put (r1.mono l2)⟩) ((he.mono l1).mono l2)
        · exact h2.elim
      · exact h2.elim
    | _ => exact h2.elim⟩⟩
/-! ### a new instance -/
def tMakeNS (C : Addr) (n m : Nat) (sp : Sp) (gV : List V → List V → List V) (E : L2.St → XK) (t tk : TA) : TE := fun σ H Q => t σ H fun vs H1 => tk σ H1 fun zs H2 => vs.length = n ∧ zs.length = m ∧
  ∀ x dx, H2 x = none → H2 dx = none → dx ≠ x → sp (gV (.ref x :: vs) zs) (upd (upd H2 dx (.own x)) x (.ins C dx [])) (fun v H3 => v = .non ∧ Q (.ref x) H3) (E σ)
def mMake (cn n m : Nat) (f : List Dt → Mem → R Dt) (idx : List Nat) (md : List Dt) (a k : MA) : MX := fun δ μ => (a δ μ).bind fun ds μ1 => (k δ μ1).bind fun es μ2 => if ds.length = n ∧ es.length = m then
  (f (pm idx ((.ptr μ2.length :: ds) ++ md ++ es)) (μ2 ++ [.ins cn []])).bind fun d μ3 => (match d with
    | .non => .ok (.ptr μ2.length) μ3
    | _ => .no) else .no
theorem ev_make {cn n m : Nat} {f : List Dt → Mem → R Dt} {idx : List Nat} {vd : List V} {md : List Dt} (hd : ∀ ω : Wd, ω.Γ = Γ → RpL ω vd md) (ha : AV Γ W ts ms) (hk : AV Γ W tk mk) :
    EV Γ W (tMakeNS (Γ.c cn) n m (FM Γ f) (fun vs zs => pm idx (vs ++ vd ++ zs)) (WE W) ts tk) (mMake cn n m f idx md ms mk) := fun σ H Q ⟨ω, δ, μ, hg, he, hw, h⟩ =>
  ha σ H _ ⟨ω, δ, μ, hg, he, hw, h.split fun ds μ1 vs ω1 H1 l1 w1 r1 h1 => hk σ H1 _ ⟨ω1, δ, μ1, l1.g.trans hg, he.mono l1, w1, h1.split fun es μ2 zs ω2 H2 l2 w2 r2 h2 => by
    split at h2
    · rename_i hl
      have hg2 := l2.g.trans (l1.g.trans hg)
      refine ⟨by rw [r1.len]; exact hl.1, by rw [r2.len]; exact hl.2, fun x dx nx nd ne => ?_⟩
      have wd := w2.newH (u := .own x) nd
      have nx' : upd H2 dx (.own x) x = none := by rw [upd_ne ne.symm]; exact nx
      obtain ⟨l3, w3, e3⟩ := wd.newM (u := .ins (Γ.c cn) dx []) (o := .ins cn []) nx' ⟨w2.x.free nx, dx, [], by rw [upd_same, ← hg2], .nil⟩
      have hg3 := l3.g.trans hg2
      refine ⟨_, _, _, hg3, pm_rp (((RpL.cons (.ptr e3) (((r1.mono l2).mono l3))).app (hd _ hg3)).app (r2.mono l3)) idx, w3, ?_⟩
      have h2 := GoE.mono h2 l3
      revert h2
      cases f (pm idx ((.ptr μ2.length :: ds) ++ md ++ es)) (μ2 ++ [.ins cn []]) with
      | ok d μ =>
        intro h2 v ω' H' l' w' r'
        cases r' with
        | non => exact ⟨rfl, h2 (.ref x) ω' H' l' w' (.ptr (l'.a _ _ e3))⟩
        | _ => exact h2.elim
      | ex n ns es μ => exact fun h2 => h2
      | no => exact fun h2 => h2
    · exact h2.elim⟩⟩
end
section
variable {X : Cx} {k n : Nat} {ps ks : List Str} {sp : Sp} {x : Str} {p pos : Pos} {e : Expr} {es : List Expr} {kws : List Keyword} {t tk : TA} {st : Stmt} {kd : List (Str × V)} {W : WX} {C f : Addr} {fd : FuncData}
  {g : List Value → List Value → List Value} {gV : List V → List V → List V} {CX : CXT} {E : L2.St → XK}
theorem run_makeNS {pins : List (Addr × Obj)} {σ : L2.St} {H : Hp} {s : Shared} {Q : VK} {us ws : List Value} {vs zs : List V} (M : Mk X.K C f) (F : FnOk X.prog X.w X.K X.mg X.base CX k f fd ps sp) (hr : Room (k + 1) X.A) (hb : KBn X.K fd ps (n + 1) ks g gV) (hx : PassesAt CX X σ (E σ))
    (I : Inv X pins σ H s) (ra : Vals vs us) (rk : Vals zs ws) (l1 : vs.length = n) (l2 : zs.length = ks.length)
    (h : ∀ x dx, H x = none → H dx = none → dx ≠ x → sp (gV (.ref x :: vs) zs) (upd (upd H dx (.own x)) x (.ins C dx [])) (fun v H2 => v = .non ∧ Q (.ref x) H2) (E σ)) :
    wpAny (model X.prog X.w) X.A (call (.ref C) us (ks.zip ws)) (L2.EP X pins σ Q) X.xe s := by
  have hn := h (s.heap.objs.size + 1) s.heap.objs.size (I.hok.fresh (Nat.le_succ _)) (I.hok.fresh (Nat.le_refl _)) (Nat.ne_of_lt (Nat.lt_succ_self _))
  have J := Inv.made (C := C) I
  have rel := hb.rel (show Vals (V.ref (s.heap.objs.size + 1) :: vs) (Value.ref (s.heap.objs.size + 1) :: us) from .cons rfl ra) rk
  have many : (Value.ref (s.heap.objs.size + 1) :: us).length = n + 1 := by rw [List.length_cons, ← ra.length, l1]
  have run := F.run (X.A.under (.builtin "type.__call__" ⟨.ref C :: us, ks.zip ws⟩)) X.stack _ _ ⟨Value.ref (s.heap.objs.size + 1) :: us, ks.zip ws⟩ (g (Value.ref (s.heap.objs.size + 1) :: us) ws) _ _ (E σ) (hr.make C us (ks.zip ws))
    (J.env0.make C us (ks.zip ws)) (hb.to _ (Value.ref (s.heap.objs.size + 1) :: us) ws J.kIn many (rk.length.symm.trans l2)) rel hn
  refine wpAny_call (make_map (f := f) I.kIn M.makes M.init (beq_iff_eq.mp M.fn) (codeAny_mono run fun r s' z => ?_))
  cases r with
  | error e => exact hx pins _ _ e s' J z
  | ok fl => cases fl with
    | ret u =>
      obtain ⟨v, H', J3, rv, ev, q3⟩ := J.after z
      subst ev
      exact ⟨rv, ⟨V.ref (s.heap.objs.size + 1), H', J3, rfl, q3⟩⟩
    | _ => exact False.elim z
theorem pe_mkNS (M : Mk X.K C f) (F : FnOk X.prog X.w X.K X.mg X.base CX k f fd ps sp) (hr : Room (k + 1) X.A) (hg : Gl X x) (hm : X.mg x = some (.ref C)) (hb : KBn X.K fd ps (n + 1) ks g gV) (hx : ∀ σ, PassesAt CX X σ (E σ)) (ha : PA X (e :: es) t) (hkw : PK X kws tk)
    (hall : (backToKw pos (keywordEach kws X.env)).all (·.1.isSome) = true := by rfl) (hks : (backToKw pos (keywordEach kws X.env)).filterMap (·.1) = ks := by rfl) (hdb : (x == ("__debug__" : Str)) = false := by decide)
    (he : starEach (e :: es) X.env = (false, eval e X.env) :: starEach es X.env := by rfl) (hpl : ((backTo pos (starEach (e :: es) X.env)).any (·.1) || (backToKw pos (keywordEach kws X.env)).any (·.1.isNone)) = false := by rfl) :
    PE X (.Call (.Name x p) (e :: es) kws pos) (tMakeNS C n ks.length sp gV E t tk) := by
  refine ⟨fun pins s σ H Q I h => wpAny_Call_Name_kw (ld_glob I hg hm ?_ hdb)⟩
  refine PySem.W.callWith_KW (h₀ := X.base) I.ok.mod.kin M.kp hall (thn (ha.run pos pins s σ H _ I h) fun us s1 z => ?_) hpl he
  obtain ⟨vs, H1, I1, r, q⟩ := z
  refine thn (hkw.run pos pins s1 σ H1 _ I1 q) fun ws s2 z => ?_
  obtain ⟨zs, H2, I2, rz, l1, l2, q2⟩ := z
  refine ⟨I2.kIn, ?_⟩
  rw [hks]
  exact run_makeNS M F hr hb (hx σ) I2 r rz l1 l2 q2
theorem pe_mkNS0 (M : Mk X.K C f) (F : FnOk X.prog X.w X.K X.mg X.base CX k f fd ps sp) (hr : Room (k + 1) X.A) (hg : Gl X x) (hm : X.mg x = some (.ref C)) (hb : KBn X.K fd ps 1 ks g gV) (hx : ∀ σ, PassesAt CX X σ (E σ)) (hkw : PK X kws tk)
    (hall : (backToKw pos (keywordEach kws X.env)).all (·.1.isSome) = true := by rfl) (hks : (backToKw pos (keywordEach kws X.env)).filterMap (·.1) = ks := by rfl) (hdb : (x == ("__debug__" : Str)) = false := by decide)
    (hpl : ((backTo pos (starEach [] X.env)).any (·.1) || (backToKw pos (keywordEach kws X.env)).any (·.1.isNone)) = false := by rfl) :
    PE X (.Call (.Name x p) [] kws pos) (tMakeNS C 0 ks.length sp gV E tNil tk) := by
  refine ⟨fun pins s σ H Q I h => wpAny_Call_Name_kw (ld_glob I hg hm ?_ hdb)⟩
  refine PySem.W.callWith_KW0 (h₀ := X.base) I.ok.mod.kin M.kp hall (thn (hkw.run pos pins s σ H _ I h) fun ws s2 z => ?_) hpl
  obtain ⟨zs, H2, I2, rz, l1, l2, q2⟩ := z
  refine ⟨I2.kIn, ?_⟩
  rw [hks]
  exact run_makeNS (us := []) (vs := []) M F hr hb (hx σ) I2 .nil rz rfl l2 q2
theorem pe_mkNP (M : Mk X.K C f) (F : FnOk X.prog X.w X.K X.mg X.base CX k f fd ps sp) (hr : Room (k + 1) X.A) (hg : Gl X x) (hm : X.mg x = some (.ref C)) (hb : KBn X.K fd ps (n + 1) [] g gV) (hx : ∀ σ, PassesAt CX X σ (E σ)) (ha : PA X (e :: es) t)
    (hdb : (x == ("__debug__" : Str)) = false := by decide) (he : starEach (e :: es) X.env = (false, eval e X.env) :: starEach es X.env := by rfl) (hpl : (backTo pos (starEach es X.env)).any (·.1) = false := by rfl) :
    PE X (.Call (.Name x p) (e :: es) [] pos) (tMakeNS C n 0 sp gV E t tNil) := by
  refine ⟨fun pins s σ H Q I h => wpAny_Call_Name_kw (ld_glob I hg hm ?_ hdb)⟩
  refine PySem.W.callWith_K (h₀ := X.base) I.ok.mod.kin M.kp (thn (ha.run pos pins s σ H _ I h) fun us s1 z => ?_) he hpl
  obtain ⟨vs, H1, I1, r, q⟩ := z
  obtain ⟨l1, l2, q2⟩ := (show vs.length = n ∧ ([] : List V).length = 0 ∧ _ from q)
  exact ⟨I1.kIn, run_makeNS (ks := []) (ws := []) (zs := []) M F hr hb (hx σ) I1 r .nil l1 l2 q2⟩
theorem pe_mkNP0 (M : Mk X.K C f) (F : FnOk X.prog X.w X.K X.mg X.base CX k f fd ps sp) (hr : Room (k + 1) X.A) (hg : Gl X x) (hm : X.mg x = some (.ref C)) (hb : KBn X.K fd ps 1 [] g gV) (hx : ∀ σ, PassesAt CX X σ (E σ))
    (hdb : (x == ("__debug__" : Str)) = false := by decide) :
    PE X (.Call (.Name x p) [] [] pos) (tMakeNS C 0 0 sp gV E tNil tNil) := by
  refine ⟨fun pins s σ H Q I h => wpAny_Call_Name_kw (ld_glob I hg hm ?_ hdb)⟩
  obtain ⟨l1, l2, q2⟩ := (show ([] : List V).length = 0 ∧ ([] : List V).length = 0 ∧ _ from h)
  exact PySem.W.callWith_K0 I.kIn M.kp (run_makeNS (n := 0) (ks := []) (ws := []) (zs := []) (us := []) (vs := []) M F hr hb (hx σ) I .nil .nil rfl rfl q2)
end
end DM

set_option linter.all false
set_option maxRecDepth 100000
set_option maxHeartbeats 4000000
/-! DM8: methods of own classes; dicts. -/
namespace DM
open PySem PySem.Spec PyProof.Rows L2
open Classical
/-! ### methods -/
/-- for each class number the method's function and where it stands -/
structure MethB (P : Program) (w : World) (K : PySem.W.Frag) (mg : Str → Option Value) (base : Heap) (Γ : Gm) (m : Str) (cn k n : Nat) (ks : List Str) (gV : List V → List V → List V) (f : List Dt → Mem → R Dt) : Prop where
  ex : ∃ (g : Addr) (fd : FuncData) (ps : List Str) (gg : List Value → List Value → List Value), Cls K (Γ.c cn) ∧ Meth K (Γ.c cn) m g ∧ FnOk P w K mg base (L2.CX P w) k g fd ps (FM Γ f) ∧ KBn K fd ps (n + 1) ks gg gV
/-- o.m(..), o an instance of one of the classes that tb knows -/
def tMethM (K : PySem.W.Frag) (Γ : Gm) (tb : Nat → Option (List Dt → Mem → R Dt)) (m : Str) (n l : Nat) (gV : List V → List V → List V) (E : L2.St → XK) (ta : TE) (t tk : TA) : TE := fun σ H Q => ta σ H fun x H1 => ∃ a cn f dx fs, x = .ref a ∧ H1 a = some (.ins (Γ.c cn) dx fs) ∧ tb cn = some f ∧ fs.lookup m = none ∧
  t σ H1 fun vs H2 => tk σ H2 fun zs H3 => vs.length = n ∧ zs.length = l ∧ FM Γ f (gV (x :: vs) zs) H3 Q (E σ)
section
variable {X : Cx} {k n : Nat} {ps ks : List Str} {p pos apos : Pos} {e o : Expr} {es : List Expr} {kws : List Keyword} {ta : TE} {t tk : TA} {W : WX} {m : Str} {gV : List V → List V → List V} {Γ : Gm} {tb : Nat → Option (List Dt → Mem → R Dt)} {E : L2.St → XK} {K : PySem.W.Frag}
theorem run_methM {pins : List (Addr × Obj)} {σ : L2.St} {H : Hp} {s : Shared} {Q : VK} {us ws : List Value} {vs zs : List V} {a g : Addr} {fd : FuncData} {gg : List Value → List Value → List Value} {f : List Dt → Mem → R Dt}
    (F : FnOk X.prog X.w X.K X.mg X.base (L2.CX X.prog X.w) k g fd ps (FM Γ f)) (hr : Room k X.A) (hb : KBn X.K fd ps (n + 1) ks gg gV) (hx : PassesAt (L2.CX X.prog X.w) X σ (E σ)) (I : Inv X pins σ H s) (r : Vals vs us) (rz : Vals zs ws) (l1 : vs.length = n) (l2 : zs.length = ks.length)
    (h : FM Γ f (gV (.ref a :: vs) zs) H Q (E σ)) : wpAny (model X.prog X.w) X.A (call (.ref g) (.ref a :: us) (ks.zip ws)) (L2.EP X pins σ Q) X.xe s := by
  have rr : Vals (V.ref a :: vs) (Value.ref a :: us) := .cons rfl r
  have hl : (Value.ref a :: us).length = n + 1 := by rw [List.length_cons, ← r.length, l1]
  refine wpAny_call (codeAny_mono (F.run X.A X.stack s H ⟨Value.ref a :: us, ks.zip ws⟩ (gg (Value.ref a :: us) ws) (gV (.ref a :: vs) zs) Q (E σ) hr I.env0 (hb.to s _ ws I.kIn hl (rz.length.symm.trans l2)) (hb.rel rr rz) h) fun res s' z => ?_)
  cases res with
  | error e => exact hx pins H s e s' I z
  | ok fl => cases fl with
    | ret u => exact I.after z
    | _ => exact False.elim z
/-- o.m(e, .., k = v, ..) -/
theorem pe_mtM {pl : Sem Bool} (hK : X.K = K) (he : PE X o ta) (hT : ∀ cn f, tb cn = some f → MethB X.prog X.w X.K X.mg X.base Γ m cn k n ks gV f) (hr : Room k X.A) (hx : ∀ σ, PassesAt (L2.CX X.prog X.w) X σ (E σ)) (ha : PA X (e :: es) t) (hkw : PK X kws tk)
    (hall : (backToKw pos (keywordEach kws X.env)).all (·.1.isSome) = true := by rfl) (hks : (backToKw pos (keywordEach kws X.env)).filterMap (·.1) = ks := by rfl)
    (hst : starEach (e :: es) X.env = (false, eval e X.env) :: starEach es X.env := by rfl) (hpl : ((backTo pos (starEach (e :: es) X.env)).any (·.1) || (backToKw pos (keywordEach kws X.env)).any (·.1.isNone)) = false := by rfl)
    (ht : eval (.Call (.Attribute o m apos) (e :: es) kws pos) X.env = (do
      let ov ← eval o X.env
      standAt apos.atName
      let (f, first) ← holding [ov] (getMethod ov m pl)
      callWith pos f first (backTo pos (starEach (e :: es) X.env)) (backToKw pos (keywordEach kws X.env))) := by rfl) :
    PE X (.Call (.Attribute o m apos) (e :: es) kws pos) (tMethM K Γ tb m n ks.length gV E ta t tk) := by
  subst hK
  refine ⟨fun pins s σ H Q I h => PySem.W.methodCall_KW (pl := pl) (thn (he.run pins s σ H _ I h) fun u s1 z => ?_) ht⟩
  obtain ⟨x, H1, I1, rx, a, cn, f, dx, fs, ex, ea, et, l, q⟩ := z
  subst ex
  obtain rfl : u = Value.ref a := rx
  obtain ⟨g, fd, ps, gg, c, hm, F, hb⟩ := (hT cn f et).ex
  refine getmeth_ok I1 ea c hm l ?_
  refine PySem.W.callWith_KW (first := [.ref a]) (h₀ := X.base) I.ok.mod.kin hm.kp hall (thn (ha.run pos pins s1 σ H1 _ I1 q) fun us s2 z => ?_) hpl hst
  obtain ⟨vs, H2, I2, r, q2⟩ := z
  refine thn (hkw.run pos pins s2 σ H2 _ I2 q2) fun ws s3 z => ?_
  obtain ⟨zs, H3, I3, rz, l1, l2, q3⟩ := z
  refine ⟨I3.kIn, ?_⟩
  rw [hks]
  exact run_methM F hr hb (hx σ) I3 r rz l1 l2 q3
/-- o.m(k = v, ..) -/
theorem pe_mtM0 {pl : Sem Bool} (hK : X.K = K) (he : PE X o ta) (hT : ∀ cn f, tb cn = some f → MethB X.prog X.w X.K X.mg X.base Γ m cn k 0 ks gV f) (hr : Room k X.A) (hx : ∀ σ, PassesAt (L2.CX X.prog X.w) X σ (E σ)) (hkw : PK X kws tk)
    (hall : (backToKw pos (keywordEach kws X.env)).all (·.1.isSome) = true := by rfl) (hks : (backToKw pos (keywordEach kws X.env)).filterMap (·.1) = ks := by rfl)
    (hpl : ((backTo pos (starEach [] X.env)).any (·.1) || (backToKw pos (keywordEach kws X.env)).any (·.1.isNone)) = false := by rfl)
    (ht : eval (.Call (.Attribute o m apos) [] kws pos) X.env = (do
      let ov ← eval o X.env
      standAt apos.atName
      let (f, first) ← holding [ov] (getMethod ov m pl)
      callWith pos f first (backTo pos (starEach [] X.env)) (backToKw pos (keywordEach kws X.env))) := by rfl) :
    PE X (.Call (.Attribute o m apos) [] kws pos) (tMethM K Γ tb m 0 ks.length gV E ta tNil tk) := by
  subst hK
  refine ⟨fun pins s σ H Q I h => PySem.W.methodCall_KW (pl := pl) (thn (he.run pins s σ H _ I h) fun u s1 z => ?_) ht⟩
  obtain ⟨x, H1, I1, rx, a, cn, f, dx, fs, ex, ea, et, l, q⟩ := z
  subst ex
  obtain rfl : u = Value.ref a := rx
  obtain ⟨g, fd, ps, gg, c, hm, F, hb⟩ := (hT cn f et).ex
  refine getmeth_ok I1 ea c hm l ?_
  refine PySem.W.callWith_KW0 (first := [.ref a]) (h₀ := X.base) I.ok.mod.kin hm.kp hall (thn (hkw.run pos pins s1 σ H1 _ I1 q) fun ws s3 z => ?_) hpl
  obtain ⟨zs, H3, I3, rz, l1, l2, q3⟩ := z
  refine ⟨I3.kIn, ?_⟩
  rw [hks]
  exact run_methM (us := []) (vs := []) F hr hb (hx σ) I3 .nil rz rfl l2 q3
/-- o.m(e, ..) -/
theorem pe_mtMP {pl : Sem Bool} (hK : X.K = K) (he : PE X o ta) (hT : ∀ cn f, tb cn = some f → MethB X.prog X.w X.K X.mg X.base Γ m cn k n [] gV f) (hr : Room k X.A) (hx : ∀ σ, PassesAt (L2.CX X.prog X.w) X σ (E σ)) (ha : PA X (e :: es) t)
    (hst : starEach (e :: es) X.env = (false, eval e X.env) :: starEach es X.env := by rfl) (hpl : (backTo pos (starEach es X.env)).any (·.1) = false := by rfl)
    (ht : eval (.Call (.Attribute o m apos) (e :: es) [] pos) X.env = (do
      let ov ← eval o X.env
      standAt apos.atName
      let (f, first) ← holding [ov] (getMethod ov m pl)
      callWith pos f first (backTo pos (starEach (e :: es) X.env)) (backToKw pos (keywordEach [] X.env))) := by rfl) :
    PE X (.Call (.Attribute o m apos) (e :: es) [] pos) (tMethM K Γ tb m n 0 gV E ta t tNil) := by
  subst hK
  refine ⟨fun pins s σ H Q I h => PySem.W.methodCall_KW (pl := pl) (thn (he.run pins s σ H _ I h) fun u s1 z => ?_) ht⟩
  obtain ⟨x, H1, I1, rx, a, cn, f, dx, fs, ex, ea, et, l, q⟩ := z
  subst ex
  obtain rfl : u = Value.ref a := rx
  obtain ⟨g, fd, ps, gg, c, hm, F, hb⟩ := (hT cn f et).ex
  refine getmeth_ok I1 ea c hm l ?_
  refine PySem.W.callWith_K (first := [.ref a]) (h₀ := X.base) I.ok.mod.kin hm.kp (thn (ha.run pos pins s1 σ H1 _ I1 q) fun us s2 z => ?_) hst hpl
  obtain ⟨vs, H2, I2, r, q2⟩ := z
  obtain ⟨l1, l2, q3⟩ := (show vs.length = n ∧ ([] : List V).length = 0 ∧ FM Γ f (gV (.ref a :: vs) []) H2 Q (E σ) from q2)
  exact ⟨I2.kIn, run_methM (ks := []) (ws := []) (zs := []) F hr hb (hx σ) I2 r .nil l1 l2 q3⟩
/-- o.m() -/
theorem pe_mtMP0 {pl : Sem Bool} (hK : X.K = K) (he : PE X o ta) (hT : ∀ cn f, tb cn = some f → MethB X.prog X.w X.K X.mg X.base Γ m cn k 0 [] gV f) (hr : Room k X.A) (hx : ∀ σ, PassesAt (L2.CX X.prog X.w) X σ (E σ))
    (ht : eval (.Call (.Attribute o m apos) [] [] pos) X.env = (do
      let ov ← eval o X.env
      standAt apos.atName
      let (f, first) ← holding [ov] (getMethod ov m pl)
      callWith pos f first (backTo pos (starEach [] X.env)) (backToKw pos (keywordEach [] X.env))) := by rfl) :
    PE X (.Call (.Attribute o m apos) [] [] pos) (tMethM K Γ tb m 0 0 gV E ta tNil tNil) := by
  subst hK
  refine ⟨fun pins s σ H Q I h => PySem.W.methodCall_KW (pl := pl) (thn (he.run pins s σ H _ I h) fun u s1 z => ?_) ht⟩
  obtain ⟨x, H1, I1, rx, a, cn, f, dx, fs, ex, ea, et, l, q⟩ := z
  subst ex
  obtain rfl : u = Value.ref a := rx
  obtain ⟨g, fd, ps, gg, c, hm, F, hb⟩ := (hT cn f et).ex
  obtain ⟨l1, l2, q3⟩ := (show ([] : List V).length = 0 ∧ ([] : List V).length = 0 ∧ FM Γ f (gV (.ref a :: []) []) H1 Q (E σ) from q)
  refine getmeth_ok I1 ea c hm l ?_
  exact PySem.W.callWith_K0 (first := [.ref a]) I1.kIn hm.kp (run_methM (n := 0) (ks := []) (ws := []) (zs := []) (us := []) (vs := []) F hr hb (hx σ) I1 .nil .nil rfl rfl q3)
end
def mMeth (tb : Nat → Option (List Dt → Mem → R Dt)) (m : Str) (n l : Nat) (idx : List Nat) (md : List Dt) (o : MX) (a k : MA) : MX := fun δ μ => (o δ μ).bind fun x μ0 => match x with
  | .ptr i => match μ0[i]? with
    | some (.ins cn fs) => match tb cn, fs.lookup m with
      | some f, none => (a δ μ0).bind fun ds μ1 => (k δ μ1).bind fun es μ2 => if ds.length = n ∧ es.length = l then f (pm idx ((.ptr i :: ds) ++ md ++ es)) μ2 else .no
      | _, _ => .no
    | _ => .no
  | _ => .no
section
variable {Γ : Gm} {W : WX} {K : PySem.W.Frag} {ta tb tc : TE} {ma mb mc : MX} {ts tk : TA} {ms mk : MA}
theorem ev_meth {tm : Nat → Option (List Dt → Mem → R Dt)} {m : Str} {n l : Nat} {idx : List Nat} {vd : List V} {md : List Dt} (hd : ∀ ω : Wd, ω.Γ = Γ → RpL ω vd md) (ho : EV Γ W ta ma) (ha : AV Γ W ts ms) (hk : AV Γ W tk mk) :
    EV Γ W (tMethM K Γ tm m n l (fun vs zs => pm idx (vs ++ vd ++ zs)) (WE W) ta ts tk) (mMeth tm m n l idx md ma ms mk) := fun σ H Q ⟨ω, δ, μ, hg, he, hw, h⟩ =>
  ho σ H _ ⟨ω, δ, μ, hg, he, hw, h.split fun x μ0 v ω0 H0 l0 w0 r0 h0 => by
    have hg0 := l0.g.trans hg
    cases r0 with
    | ptr hb =>
      rename_i i a
      dsimp only at h0
      split at h0
      · rename_i cn fs e
        split at h0
        · rename_i f e1 e2
          obtain ⟨_, dx, vs0, hx, rk⟩ := w0.at_ _ _ _ hb e
          rw [hg0] at hx
          refine ⟨_, cn, f, dx, vs0, rfl, hx, e1, rk.look0 e2, ha σ H0 _ ⟨ω0, δ, μ0, hg0, he.mono l0, w0, h0.split fun ds μ1 vs ω1 H1 l1 w1 r1 h1 => hk σ H1 _ ⟨ω1, δ, μ1, l1.g.trans hg0, (he.mono l0).mono l1, w1, h1.split fun es μ2 zs ω2 H2 l2 w2 r2 h2 => ?_⟩⟩⟩
          split at h2
          · rename_i hl
            have hg2 := l2.g.trans (l1.g.trans hg0)
            refine ⟨by rw [r1.len]; exact hl.1, by rw [r2.len]; exact hl.2, ω2, _, μ2, hg2, pm_rp (((RpL.cons (.ptr (l2.a _ _ (l1.a _ _ hb))) (r1.mono l2)).app (hd ω2 hg2)).app r2) idx, w2, ?_⟩
            revert h2
            cases f (pm idx ((.ptr i :: ds) ++ md ++ es)) μ2 with
            | ok d μ => exact fun h2 => h2
            | ex n ns es μ => exact fun h2 => h2
            | no => exact fun h2 => h2
          · exact h2.elim
        · exact h0.elim
      · exact h0.elim
    | _ => exact h0.elim⟩
end
end DM

set_option linter.all false
set_option maxRecDepth 100000
set_option maxHeartbeats 4000000
/-! DM9: dicts by texts and ints; sorted texts. -/
namespace DM
open PySem PySem.Spec PyProof.Rows L2
open Classical
def keyD : Dt → Option Key
  | .str z => some (.inr z)
  | .int i => some (.inl i)
  | _ => none
theorem keyD_ok {ω : Wd} {v : V} {d : Dt} {k : Key} (r : Rp ω v d) (h : keyD d = some k) : v = kV k := by
  cases r <;> first | (cases h; rfl) | cases h
def valD (kvs : List (Key × Dt)) (k : Key) : Option Dt := (kvs.find? fun kv => decide (kv.1 = k)).map (·.2)
def putKD (kvs : List (Key × Dt)) (k : Key) (v : Dt) : List (Key × Dt) :=
  if (kvs.any fun kv => decide (kv.1 = k)) = true then kvs.map (fun kv => if kv.1 = k then (kv.1, v) else kv) else kvs ++ [(k, v)]
def dropKD (kvs : List (Key × Dt)) (k : Key) : List (Key × Dt) := kvs.filter fun kv => decide (kv.1 ≠ k)
section
variable {ω : Wd} {k : Key}
theorem RpK.val {vs : List (Key × V)} {ds : List (Key × Dt)} (r : RpK ω vs ds) : (∀ d, valD ds k = some d → ∃ v, valV vs k = some v ∧ Rp ω v d) ∧ (valD ds k = none → valV vs k = none) := by
  induction r with
  | nil => exact ⟨fun d h => (nomatch h), fun _ => rfl⟩
  | @cons j u e vs ds a r ih =>
    unfold valD valV at ih ⊢
    rw [List.find?_cons, List.find?_cons]
    by_cases h : j = k
    · rw [decide_eq_true h]
      exact ⟨fun d q => (by cases q; exact ⟨u, rfl, a⟩), fun q => (nomatch q)⟩
    · rw [decide_eq_false h]
      exact ih
theorem RpK.any {vs : List (Key × V)} {ds : List (Key × Dt)} (r : RpK ω vs ds) : (vs.any fun kv => decide (kv.1 = k)) = ds.any fun kv => decide (kv.1 = k) := by
  induction r with
  | nil => rfl
  | cons a r ih => rw [List.any_cons, List.any_cons, ih]
theorem RpK.app {vs ws : List (Key × V)} {ds es : List (Key × Dt)} (r : RpK ω vs ds) (q : RpK ω ws es) : RpK ω (vs ++ ws) (ds ++ es) := by
  induction r with
  | nil => exact q
  | cons a r ih => exact .cons a ih
theorem RpK.mapPut {v : V} {d : Dt} (hv : Rp ω v d) {vs : List (Key × V)} {ds : List (Key × Dt)} (r : RpK ω vs ds) : RpK ω (vs.map fun kv => if kv.1 = k then (kv.1, v) else kv) (ds.map fun kv => if kv.1 = k then (kv.1, d) else kv) := by
  induction r with
  | nil => exact .nil
  | @cons j u e vs ds a r ih =>
    rw [List.map_cons, List.map_cons]
    by_cases h : j = k
    · rw [if_pos h, if_pos h]
      exact .cons hv ih
    · rw [if_neg h, if_neg h]
      exact .cons a ih
theorem RpK.putk {v : V} {d : Dt} (hv : Rp ω v d) {vs : List (Key × V)} {ds : List (Key × Dt)} (r : RpK ω vs ds) : RpK ω (putK vs k v) (putKD ds k d) := by
  unfold putK putKD
  rw [r.any]
  split
  · exact r.mapPut hv
  · exact r.app (.cons hv .nil)
theorem RpK.dropk {vs : List (Key × V)} {ds : List (Key × Dt)} (r : RpK ω vs ds) : RpK ω (dropK vs k) (dropKD ds k) := by
  unfold dropK dropKD
  induction r with
  | nil => exact .nil
  | @cons j u e vs ds a r ih =>
    by_cases h : j = k
    · rw [List.filter_cons, List.filter_cons]
      simp only [h, ne_eq, not_true_eq_false, decide_false, Bool.false_eq_true, if_false]
      exact ih
    · rw [List.filter_cons, List.filter_cons]
      simp only [h, ne_eq, not_false_eq_true, decide_true, if_true]
      exact .cons a ih
theorem RpK.keys {vs : List (Key × V)} {ds : List (Key × Dt)} (r : RpK ω vs ds) : vs.map (·.1) = ds.map (·.1) := by
  induction r with
  | nil => rfl
  | cons a r ih => rw [List.map_cons, List.map_cons, ih]
end
/-- the dict that a value tells, in the store -/
def asK (μ : Mem) : Dt → Option (List (Key × Dt))
  | .ptr i => match μ[i]? with
    | some (.dK kvs) => some kvs
    | _ => none
  | _ => none
theorem asK_ok {ω : Wd} {μ : Mem} {H : Hp} {x : V} {d : Dt} {kvs : List (Key × Dt)} (w : WR ω μ H) (r : Rp ω x d) (h : asK μ d = some kvs) : ∃ (i : Nat) (a : Addr) (vs : List (Key × V)), d = .ptr i ∧ x = .ref a ∧ ω.α[i]? = some a ∧ ω.B a = none ∧ H a = some (.dK vs) ∧ RpK ω vs kvs := by
  cases r with
  | ptr h1 =>
    rename_i i a
    unfold asK at h
    dsimp only at h
    split at h
    · rename_i ks e
      cases h
      obtain ⟨hb, vs, hx, rk⟩ := w.at_ i a _ h1 e
      exact ⟨i, a, vs, rfl, rfl, h1, hb, hx, rk⟩
    · cases h
  | _ => cases h
section
variable {Γ : Gm} {W : WX} {K : PySem.W.Frag} {ta tb tc : TE} {ma mb mc : MX}
/-- {} -/
def mDNew : MX := fun _ μ => .ok (.ptr μ.length) (μ ++ [.dK []])
theorem ev_dnew : EV Γ W tDNewK mDNew := fun σ H Q ⟨ω, δ, μ, hg, he, hw, h⟩ p hp => by
  obtain ⟨l2, w2, e2⟩ := hw.newM (u := .dK []) (o := .dK []) hp ⟨hw.x.free hp, [], upd_same, .nil⟩
  exact h _ _ _ l2 w2 (.ptr e2)
/-- d[k] -/
def oDGet (a b : Dt) (μ : Mem) : R Dt := match asK μ a, keyD b with
  | some kvs, some k => (match valD kvs k with
    | some d => .ok d μ
    | none => .no)
  | _, _ => .no
theorem ev_dget (ha : EV Γ W ta ma) (hb : EV Γ W tb mb) : EV Γ W (tDGet ta tb) (mOp oDGet ma mb) := fun σ H Q ⟨ω, δ, μ, hg, he, hw, h⟩ =>
  ha σ H _ ⟨ω, δ, μ, hg, he, hw, h.split fun a μ1 x ω1 H1 l1 w1 r1 h1 => hb σ H1 _ ⟨ω1, δ, μ1, l1.g.trans hg, he.mono l1, w1, GoE.split (f := fun y μ2 => oDGet a y μ2) h1 fun b μ2 y ω2 H2 l2 w2 r2 h2 => by
    unfold oDGet at h2
    split at h2
    · rename_i kvs k e1 e2
      split at h2
      · rename_i d e3
        obtain ⟨i, p, vs, rfl, rfl, hα, hB, hx, rk⟩ := asK_ok w2 (r1.mono l2) e1
        obtain ⟨v, hv, rv⟩ := (rk.val (k := k)).1 d e3
        exact ⟨p, v, rfl, .inl ⟨vs, k, .inl hx, keyD_ok r2 e2, hv.symm⟩, h2.ok w2 rv⟩
      · exact h2.elim
    · exact h2.elim⟩⟩
/-- k in d -/
def oDIn (neg : Bool) (a b : Dt) (μ : Mem) : R Dt := match keyD a, asK μ b with
  | some k, some kvs => .ok (.bl (neg ^^ (valD kvs k).isSome)) μ
  | _, _ => .no
theorem dIn_ok {ω : Wd} {μ : Mem} {H : Hp} {x y : V} {a b : Dt} {k : Key} {kvs : List (Key × Dt)} (w : WR ω μ H) (r1 : Rp ω x a) (r2 : Rp ω y b) (e1 : keyD a = some k) (e2 : asK μ b = some kvs) : ∃ p o, y = .ref p ∧ DGet H p x o ∧ o.isSome = (valD kvs k).isSome := by
  obtain ⟨i, p, vs, rfl, rfl, hα, hB, hx, rk⟩ := asK_ok w r2 e2
  refine ⟨p, valV vs k, rfl, .inl ⟨vs, k, .inl hx, keyD_ok r1 e1, rfl⟩, ?_⟩
  cases e : valD kvs k with
  | none =>
    rw [(rk.val (k := k)).2 e]
    rfl
  | some d =>
    obtain ⟨v, hv, _⟩ := (rk.val (k := k)).1 d e
    rw [hv]
    rfl
theorem ev_din (ha : EV Γ W ta ma) (hb : EV Γ W tb mb) : EV Γ W (tDIn ta tb) (mOp (oDIn false) ma mb) := fun σ H Q ⟨ω, δ, μ, hg, he, hw, h⟩ =>
  ha σ H _ ⟨ω, δ, μ, hg, he, hw, h.split fun a μ1 x ω1 H1 l1 w1 r1 h1 => hb σ H1 _ ⟨ω1, δ, μ1, l1.g.trans hg, he.mono l1, w1, GoE.split (f := fun y μ2 => oDIn false a y μ2) h1 fun b μ2 y ω2 H2 l2 w2 r2 h2 => by
    unfold oDIn at h2
    split at h2
    · rename_i k kvs e1 e2
      obtain ⟨p, o, ey, g, q⟩ := dIn_ok w2 (r1.mono l2) r2 e1 e2
      exact ⟨p, o, ey, g, by rw [q]; exact h2.ok w2 (by rw [Bool.false_xor]; exact .bl _)⟩
    · exact h2.elim⟩⟩
theorem ev_dnin (ha : EV Γ W ta ma) (hb : EV Γ W tb mb) : EV Γ W (tDNotIn ta tb) (mOp (oDIn true) ma mb) := fun σ H Q ⟨ω, δ, μ, hg, he, hw, h⟩ =>
  ha σ H _ ⟨ω, δ, μ, hg, he, hw, h.split fun a μ1 x ω1 H1 l1 w1 r1 h1 => hb σ H1 _ ⟨ω1, δ, μ1, l1.g.trans hg, he.mono l1, w1, GoE.split (f := fun y μ2 => oDIn true a y μ2) h1 fun b μ2 y ω2 H2 l2 w2 r2 h2 => by
    unfold oDIn at h2
    split at h2
    · rename_i k kvs e1 e2
      obtain ⟨p, o, ey, g, q⟩ := dIn_ok w2 (r1.mono l2) r2 e1 e2
      exact ⟨p, o, ey, g, by rw [q]; exact h2.ok w2 (by rw [Bool.true_xor]; exact .bl _)⟩
    · exact h2.elim⟩⟩
/-- d.get(k, e) -/
def mDGet2 (a b c : MX) : MX := fun δ μ => (a δ μ).bind fun x μ1 => if (asK μ1 x).isSome = true then (b δ μ1).bind fun y μ2 => (c δ μ2).bind fun z μ3 => (match asK μ3 x, keyD y with
  | some kvs, some k => .ok ((valD kvs k).getD z) μ3
  | _, _ => .no) else .no
theorem ev_dget2 (ha : EV Γ W ta ma) (hb : EV Γ W tb mb) (hc : EV Γ W tc mc) : EV Γ W (tDGet2 ta tb tc) (mDGet2 ma mb mc) := fun σ H Q ⟨ω, δ, μ, hg, he, hw, h⟩ =>
  ha σ H _ ⟨ω, δ, μ, hg, he, hw, h.split fun a μ1 x ω1 H1 l1 w1 r1 h1 => by
    split at h1
    · rename_i hs
      cases e0 : asK μ1 a with
      | none =>
        rw [e0] at hs
        cases hs
      | some kvs0 =>
        obtain ⟨i, p, vs0, rfl, rfl, hα, hB, hx, rk0⟩ := asK_ok w1 r1 e0
        refine ⟨p, rfl, .inl ⟨vs0, .inl hx⟩, hb σ H1 _ ⟨ω1, δ, μ1, l1.g.trans hg, he.mono l1, w1, h1.split fun b μ2 y ω2 H2 l2 w2 r2 h2 => hc σ H2 _ ⟨ω2, δ, μ2, l2.g.trans (l1.g.trans hg), (he.mono l1).mono l2, w2, GoE.split (f := fun z μ3 => match asK μ3 (.ptr i), keyD b with
          | some kvs, some k => .ok ((valD kvs k).getD z) μ3
          | _, _ => .no) h2 fun c μ3 z ω3 H3 l3 w3 r3 h3 => ?_⟩⟩⟩
        split at h3
        · rename_i kvs k e1 e2
          obtain ⟨i', p', vs, ei, ex, hα', hB', hx', rk⟩ := asK_ok w3 ((r1.mono l2).mono l3) e1
          cases ex
          refine ⟨valV vs k, .inl ⟨vs, k, .inl hx', keyD_ok (r2.mono l3) e2, rfl⟩, ?_⟩
          cases e : valD kvs k with
          | none =>
            rw [(rk.val (k := k)).2 e]
            rw [e] at h3
            exact h3.ok w3 r3
          | some d =>
            obtain ⟨v, hv, rv⟩ := (rk.val (k := k)).1 d e
            rw [hv]
            rw [e] at h3
            exact h3.ok w3 rv
        · exact h3.elim
    · exact h1.elim⟩
/-- d.pop(k) -/
def mDPop1 (a b : MX) : MX := fun δ μ => (a δ μ).bind fun x μ1 => if (asK μ1 x).isSome = true then (b δ μ1).bind fun y μ2 => (match x, asK μ2 x, keyD y with
  | .ptr i, some kvs, some k => (match valD kvs k with
    | some d => .ok d (μ2.set i (.dK (dropKD kvs k)))
    | none => .no)
  | _, _, _ => .no) else .no
theorem ev_dpop1 (ha : EV Γ W ta ma) (hb : EV Γ W tb mb) : EV Γ W (tDPop1 ta tb) (mDPop1 ma mb) := fun σ H Q ⟨ω, δ, μ, hg, he, hw, h⟩ =>
  ha σ H _ ⟨ω, δ, μ, hg, he, hw, h.split fun a μ1 x ω1 H1 l1 w1 r1 h1 => by
    split at h1
    · rename_i hs
      cases e0 : asK μ1 a with
      | none =>
        rw [e0] at hs
        cases hs
      | some kvs0 =>
        obtain ⟨i, p, vs0, rfl, rfl, hα, hB, hx, rk0⟩ := asK_ok w1 r1 e0
        refine ⟨p, rfl, .inl ⟨vs0, .inl hx⟩, hb σ H1 _ ⟨ω1, δ, μ1, l1.g.trans hg, he.mono l1, w1, GoE.split (f := fun y μ2 => match Dt.ptr i, asK μ2 (.ptr i), keyD y with
          | .ptr i, some kvs, some k => (match valD kvs k with
            | some d => .ok d (μ2.set i (.dK (dropKD kvs k)))
            | none => .no)
          | _, _, _ => .no) h1 fun b μ2 y ω2 H2 l2 w2 r2 h2 => ?_⟩⟩
        split at h2
        · rename_i i1 kvs k e0 e1 e2
          cases e0
          split at h2
          · rename_i d e3
            obtain ⟨i', p', vs, ei, ex, hα', hB', hx', rk⟩ := asK_ok w2 (r1.mono l2) e1
            cases ex
            cases ei
            obtain ⟨v, hv, rv⟩ := (rk.val (k := k)).1 d e3
            exact ⟨vs, k, v, hx', keyD_ok r2 e2, hv, h2 v ω2 _ (Le.refl _) (w2.put hα' hB' ⟨hB', _, upd_same, rk.dropk⟩) rv⟩
          · exact h2.elim
        · exact h2.elim
    · exact h1.elim⟩
/-- d[k] = v -/
def stPut (δ : Env) (y x z : Dt) (μ : Mem) : O := match x, asK μ x, keyD z with
  | .ptr i, some kvs, some k => if kvs.length ≤ 1000000 then .nx δ (μ.set i (.dK (putKD kvs k y))) else .no
  | _, _, _ => .no
def sDPutM (v d k : MX) : MS := fun δ μ => (v δ μ).thn δ fun y μ1 => (d δ μ1).thn δ fun x μ2 => (k δ μ2).thn δ fun z μ3 => stPut δ y x z μ3
theorem sv_dput (hv : EV Γ W tc mc) (hd : EV Γ W ta ma) (hk : EV Γ W tb mb) : SV Γ W (sDPut ta tb tc) (sDPutM mc ma mb) := fun D σ H ⟨ω, δ, μ, hg, he, hw, h⟩ =>
  hv σ H _ ⟨ω, δ, μ, hg, he, hw, GoE.splitS (f := fun y μ1 => (ma δ μ1).thn δ fun x μ2 => (mb δ μ2).thn δ fun z μ3 => stPut δ y x z μ3) he h fun y μ1 v ω1 H1 l1 w1 r1 h1 => hd σ H1 _ ⟨ω1, δ, μ1, l1.g.trans hg, he.mono l1, w1, GoE.splitS (f := fun x μ2 => (mb δ μ2).thn δ fun z μ3 => stPut δ y x z μ3) (he.mono l1) h1 fun x μ2 u ω2 H2 l2 w2 r2 h2 => hk σ H2 _ ⟨ω2, δ, μ2, l2.g.trans (l1.g.trans hg), (he.mono l1).mono l2, w2, GoE.splitS (f := fun z μ3 => stPut δ y x z μ3) ((he.mono l1).mono l2) h2 fun z μ3 w ω3 H3 l3 w3 r3 h3 => by
    unfold stPut at h3
    split at h3
    · rename_i i kvs k e2 e1
      split at h3
      · rename_i hl
        obtain ⟨i', p, vs, ei, rfl, hα, hB, hx, rk⟩ := asK_ok w3 (r2.mono l3) e1
        cases ei
        have hc : kvs.length < sizeLine := Nat.lt_of_le_of_lt hl (show 1000000 < sizeLine by decide)
        refine ⟨p, _, rfl, .inl ⟨vs, k, hx, keyD_ok r3 e2, by rw [rk.len]; exact hc, rfl⟩, ?_⟩
        exact h3 σ ω3 _ (Le.refl _) (w3.put hα hB ⟨hB, _, upd_same, rk.putk ((r1.mono l2).mono l3)⟩) (((he.mono l1).mono l2).mono l3)
      · exact h3.elim
    · exact h3.elim⟩⟩⟩
/-- d.clear() -/
def bDClear (a : Dt) (ds : List Dt) (μ : Mem) : R Dt := match a, asK μ a, ds with
  | .ptr i, some _, [] => .ok .non (μ.set i (.dK []))
  | _, _, _ => .no
theorem rm_dclear : RM rDClear bDClear := fun W ω σ μ H x a xs ds Q w ra r h => by
  unfold bDClear at h
  split at h
  · rename_i i kvs e
    obtain ⟨i', p, vs, ei, rfl, hα, hB, hx, rk⟩ := asK_ok w ra e
    cases ei
    cases r
    exact ⟨p, vs, rfl, rfl, hx, h _ ω _ (Le.refl _) (w.put hα hB ⟨hB, [], upd_same, .nil⟩) .non⟩
  · exact h.elim
end
/-! ### sorted texts -/
def leS (x y : Str) : Bool := !ltCps y.cps.toList x.cps.toList
def insS (x : Str) : List Str → List Str
  | [] => [x]
  | y :: r => if leS x y = true then x :: y :: r else y :: insS x r
def sortS : List Str → List Str
  | [] => []
  | x :: r => insS x (sortS r)
end DM

set_option linter.all false
set_option maxRecDepth 100000
set_option maxHeartbeats 4000000
/-! DMA: what the printer needs for classes; what is never reached. -/
namespace DM
open PySem PySem.Spec PyProof.Rows L2
open Classical
/-! ### what is never reached -/
def tStuck : TS := fun _ _ _ => False
def sStuck : MS := fun _ _ => .no
theorem ps_stuck {X : Cx} {st : Stmt} : PS X st tStuck := ⟨fun _ _ _ _ _ _ h => h.elim⟩
theorem sv_stuck {Γ : Gm} {W : WX} : SV Γ W tStuck sStuck := fun D σ H ⟨ω, δ, μ, hg, he, hw, h⟩ => h
def tStuckE : TE := fun _ _ _ => False
def mStuck : MX := fun _ _ => .no
theorem pe_stuck {X : Cx} {e : Expr} : PE X e tStuckE := ⟨fun _ _ _ _ _ _ h => h.elim⟩
theorem ev_stuck {Γ : Gm} {W : WX} : EV Γ W tStuckE mStuck := fun σ H Q ⟨ω, δ, μ, hg, he, hw, h⟩ => h
theorem k_dclear {X : Cx} {K : PySem.W.Frag} (hK : X.K = K) {o : Expr} {to : TE} {apos cpos : Pos} (ho : PE X o to) (hbase : attributeBase o "clear" X.env (eval o X.env) = eval o X.env := by rfl) (hline : (apos.endLine == cpos.line) = true := by rfl) : PE X (.Call (.Attribute o "clear" apos) [] [] cpos) (tBM0 K "dict" rDClear to) := hK ▸ pe_dclear ho hbase hline
/-! ### defs in classes -/
structure DefN (P : Program) (w : World) (K : PySem.W.Frag) (mg : Str → Option Value) (base : Heap) (C : Addr) (m qual : Str) (st : Stmt) (k : Nat) (ps : List Str) (kws : List (Str × V)) (sp : Sp) : Prop where
  ex : ∃ g fd, FunD K m qual (defArgs st) (defBody st) (defScope st) [] kws g fd ∧ FnOk P w K mg base (L2.CX P w) k g fd ps sp ∧ Cls K C ∧ Meth K C m g
structure DefI (P : Program) (w : World) (K : PySem.W.Frag) (mg : Str → Option Value) (base : Heap) (C : Addr) (qual : Str) (st : Stmt) (k : Nat) (ps : List Str) (kws : List (Str × V)) (sp : Sp) : Prop where
  ex : ∃ g fd, FunD K "__init__" qual (defArgs st) (defBody st) (defScope st) [] kws g fd ∧ FnOk P w K mg base (L2.CX P w) k g fd ps sp ∧ Mk K C g
section
variable {P : Program} {w : World} {K : PySem.W.Frag} {mg : Str → Option Value} {base : Heap} {Γ : Gm} {cn k : Nat} {m qual : Str} {st : Stmt} {ps : List Str} {kd : List (Str × V)} {f : List Dt → Mem → R Dt}
theorem methB_of (D : DefN P w K mg base (Γ.c cn) m qual st k ps kd (FM Γ f)) (n : Nat) (ks : List Str) (ms : List (Str × V)) (idx : List Nat) (hms : ∀ q ∈ ms, q ∈ kd)
    (h : ∀ (dk doc pm' : Value) (D : Addr) (an : Option Addr) (cdv ct : Value) (us mv ws : List Value), (kd ≠ [] → dk = .ref D) → us.length = n + 1 → mv.length = ms.length → ws.length = ks.length →
      KwChain D ((ms.map (·.1)).zip mv) (bindArgs (PySem.W.fnOf m qual (defArgs st) (defBody st) (defScope st) .none dk doc pm' an cdv ct) ⟨us, ks.zip ws⟩) (ps.zip (pm idx (us ++ mv ++ ws)))) :
    MethB P w K mg base Γ m cn k n ks (fun vs zs => pm idx (vs ++ ms.map (·.2) ++ zs)) f := by
  obtain ⟨g, fd, F, G, c, M⟩ := D.ex
  obtain ⟨mv, hb⟩ := FunD.kbinds0 F (n + 1) ks ms (fun us ms ws => pm idx (us ++ ms ++ ws)) hms (fun r1 r2 r3 => pm_vals ((r1.append r2).append r3) idx) h
  exact ⟨g, fd, ps, _, c, M, G, hb⟩
/-- one class alone -/
def tbl1 (cn : Nat) (f : List Dt → Mem → R Dt) : Nat → Option (List Dt → Mem → R Dt) := fun n => if n = cn then some f else none
@[simp] theorem tbl1_self {f : List Dt → Mem → R Dt} : tbl1 cn f cn = some f := if_pos rfl
theorem tbl1_of {n k' : Nat} {ks : List Str} {gV : List V → List V → List V} (D : MethB P w K mg base Γ m cn k' n ks gV f) : ∀ c g, tbl1 cn f c = some g → MethB P w K mg base Γ m c k' n ks gV g := fun c g e => by
  unfold tbl1 at e
  split at e
  · rename_i hc
    cases e
    rw [hc]
    exact D
  · cases e
end
section
variable {X : Cx} {k n : Nat} {ps ks : List Str} {sp : Sp} {x qual : Str} {p pos : Pos} {e : Expr} {es : List Expr} {kws : List Keyword} {t tk : TA} {st : Stmt} {kd : List (Str × V)} {W : WX} {C : Addr}
theorem pe_mI (D : DefI X.prog X.w X.K X.mg X.base C qual st k ps kd sp) (n : Nat) (ks : List Str) (ms : List (Str × V)) (idx : List Nat) (hms : ∀ q ∈ ms, q ∈ kd)
    (h : ∀ (dk doc pm' : Value) (D : Addr) (an : Option Addr) (cdv ct : Value) (us mv ws : List Value), (kd ≠ [] → dk = .ref D) → us.length = n + 1 → mv.length = ms.length → ws.length = ks.length →
      KwChain D ((ms.map (·.1)).zip mv) (bindArgs (PySem.W.fnOf "__init__" qual (defArgs st) (defBody st) (defScope st) .none dk doc pm' an cdv ct) ⟨us, ks.zip ws⟩) (ps.zip (pm idx (us ++ mv ++ ws))))
    (hr : Room (k + 1) X.A) (tk' : Takes X W) (hg : Gl X x) (hm : X.mg x = some (.ref C)) (ha : PA X (e :: es) t) (hkw : PK X kws tk) (hall : (backToKw pos (keywordEach kws X.env)).all (·.1.isSome) = true := by rfl) (hks : (backToKw pos (keywordEach kws X.env)).filterMap (·.1) = ks := by rfl)
    (hdb : (x == ("__debug__" : Str)) = false := by decide) (he : starEach (e :: es) X.env = (false, eval e X.env) :: starEach es X.env := by rfl)
    (hpl : ((backTo pos (starEach (e :: es) X.env)).any (·.1) || (backToKw pos (keywordEach kws X.env)).any (·.1.isNone)) = false := by rfl) :
    PE X (.Call (.Name x p) (e :: es) kws pos) (tMakeNS C n ks.length sp (fun vs zs => pm idx (vs ++ ms.map (·.2) ++ zs)) (WE W) t tk) := by
  obtain ⟨f, fd, F, G, M⟩ := D.ex
  obtain ⟨mv, hb⟩ := FunD.kbinds0 F (n + 1) ks ms (fun us ms ws => pm idx (us ++ ms ++ ws)) hms (fun r1 r2 r3 => pm_vals ((r1.append r2).append r3) idx) h
  exact pe_mkNS M G hr hg hm hb (fun σ => passAt tk' σ) ha hkw hall hks hdb he hpl
theorem pe_mI0 (D : DefI X.prog X.w X.K X.mg X.base C qual st k ps kd sp) (ks : List Str) (ms : List (Str × V)) (idx : List Nat) (hms : ∀ q ∈ ms, q ∈ kd)
    (h : ∀ (dk doc pm' : Value) (D : Addr) (an : Option Addr) (cdv ct : Value) (us mv ws : List Value), (kd ≠ [] → dk = .ref D) → us.length = 0 + 1 → mv.length = ms.length → ws.length = ks.length →
      KwChain D ((ms.map (·.1)).zip mv) (bindArgs (PySem.W.fnOf "__init__" qual (defArgs st) (defBody st) (defScope st) .none dk doc pm' an cdv ct) ⟨us, ks.zip ws⟩) (ps.zip (pm idx (us ++ mv ++ ws))))
    (hr : Room (k + 1) X.A) (tk' : Takes X W) (hg : Gl X x) (hm : X.mg x = some (.ref C)) (hkw : PK X kws tk) (hall : (backToKw pos (keywordEach kws X.env)).all (·.1.isSome) = true := by rfl) (hks : (backToKw pos (keywordEach kws X.env)).filterMap (·.1) = ks := by rfl)
    (hdb : (x == ("__debug__" : Str)) = false := by decide)
    (hpl : ((backTo pos (starEach [] X.env)).any (·.1) || (backToKw pos (keywordEach kws X.env)).any (·.1.isNone)) = false := by rfl) :
    PE X (.Call (.Name x p) [] kws pos) (tMakeNS C 0 ks.length sp (fun vs zs => pm idx (vs ++ ms.map (·.2) ++ zs)) (WE W) tNil tk) := by
  obtain ⟨f, fd, F, G, M⟩ := D.ex
  obtain ⟨mv, hb⟩ := FunD.kbinds0 F (0 + 1) ks ms (fun us ms ws => pm idx (us ++ ms ++ ws)) hms (fun r1 r2 r3 => pm_vals ((r1.append r2).append r3) idx) h
  exact pe_mkNS0 M G hr hg hm hb (fun σ => passAt tk' σ) hkw hall hks hdb hpl
theorem pe_mIP (D : DefI X.prog X.w X.K X.mg X.base C qual st k ps kd sp) (n : Nat) (ms : List (Str × V)) (idx : List Nat) (hms : ∀ q ∈ ms, q ∈ kd)
    (h : ∀ (dk doc pm' : Value) (D : Addr) (an : Option Addr) (cdv ct : Value) (us mv ws : List Value), (kd ≠ [] → dk = .ref D) → us.length = n + 1 → mv.length = ms.length → ws.length = 0 →
      KwChain D ((ms.map (·.1)).zip mv) (bindArgs (PySem.W.fnOf "__init__" qual (defArgs st) (defBody st) (defScope st) .none dk doc pm' an cdv ct) ⟨us, []⟩) (ps.zip (pm idx (us ++ mv ++ ws))))
    (hr : Room (k + 1) X.A) (tk' : Takes X W) (hg : Gl X x) (hm : X.mg x = some (.ref C)) (ha : PA X (e :: es) t)
    (hdb : (x == ("__debug__" : Str)) = false := by decide) (he : starEach (e :: es) X.env = (false, eval e X.env) :: starEach es X.env := by rfl) (hpl : (backTo pos (starEach es X.env)).any (·.1) = false := by rfl) :
    PE X (.Call (.Name x p) (e :: es) [] pos) (tMakeNS C n 0 sp (fun vs zs => pm idx (vs ++ ms.map (·.2) ++ zs)) (WE W) t tNil) := by
  obtain ⟨f, fd, F, G, M⟩ := D.ex
  obtain ⟨mv, hb⟩ := FunD.kbinds0 F (n + 1) [] ms (fun us ms ws => pm idx (us ++ ms ++ ws)) hms (fun r1 r2 r3 => pm_vals ((r1.append r2).append r3) idx) (fun dk doc pm D an cdv ct us mv ws => h dk doc pm D an cdv ct us mv ws)
  exact pe_mkNP M G hr hg hm hb (fun σ => passAt tk' σ) ha hdb he hpl
theorem pe_mIP0 (D : DefI X.prog X.w X.K X.mg X.base C qual st k ps kd sp) (ms : List (Str × V)) (idx : List Nat) (hms : ∀ q ∈ ms, q ∈ kd)
    (h : ∀ (dk doc pm' : Value) (D : Addr) (an : Option Addr) (cdv ct : Value) (us mv ws : List Value), (kd ≠ [] → dk = .ref D) → us.length = 0 + 1 → mv.length = ms.length → ws.length = 0 →
      KwChain D ((ms.map (·.1)).zip mv) (bindArgs (PySem.W.fnOf "__init__" qual (defArgs st) (defBody st) (defScope st) .none dk doc pm' an cdv ct) ⟨us, []⟩) (ps.zip (pm idx (us ++ mv ++ ws))))
    (hr : Room (k + 1) X.A) (tk' : Takes X W) (hg : Gl X x) (hm : X.mg x = some (.ref C)) (hdb : (x == ("__debug__" : Str)) = false := by decide) :
    PE X (.Call (.Name x p) [] [] pos) (tMakeNS C 0 0 sp (fun vs zs => pm idx (vs ++ ms.map (·.2) ++ zs)) (WE W) tNil tNil) := by
  obtain ⟨f, fd, F, G, M⟩ := D.ex
  obtain ⟨mv, hb⟩ := FunD.kbinds0 F (0 + 1) [] ms (fun us ms ws => pm idx (us ++ ms ++ ws)) hms (fun r1 r2 r3 => pm_vals ((r1.append r2).append r3) idx) (fun dk doc pm D an cdv ct us mv ws => h dk doc pm D an cdv ct us mv ws)
  exact pe_mkNP0 M G hr hg hm hb (fun σ => passAt tk' σ) hdb
end
section
variable {X : Cx} {k : Nat} {ps : List Str} {sp : Sp} {x : Str} {p pos : Pos} {st : Stmt} {kd : List (Str × V)} {W : WX}
/-- f() -/
theorem pe_dMP0 (D : DefM X.prog X.w X.K X.mg X.base x st k ps kd sp) (ms : List (Str × V)) (idx : List Nat) (hms : ∀ q ∈ ms, q ∈ kd)
    (h : ∀ (dk doc pm' : Value) (D : Addr) (an : Option Addr) (cdv ct : Value) (us mv ws : List Value), (kd ≠ [] → dk = .ref D) → us.length = 0 → mv.length = ms.length → ws.length = 0 →
      KwChain D ((ms.map (·.1)).zip mv) (bindArgs (PySem.W.fnOf x x (defArgs st) (defBody st) (defScope st) .none dk doc pm' an cdv ct) ⟨us, []⟩) (ps.zip (pm idx (us ++ mv ++ ws))))
    (hr : Room k X.A) (tk' : Takes X W) (hg : Gl X x) (hdb : (x == ("__debug__" : Str)) = false := by decide) :
    PE X (.Call (.Name x p) [] [] pos) (tCallNS 0 0 sp (fun vs zs => pm idx (vs ++ ms.map (·.2) ++ zs)) (WE W) tNil tNil) := by
  obtain ⟨f, fd, F, G, gm⟩ := D.ex
  obtain ⟨mv, hb⟩ := FunD.kbinds0 F 0 [] ms (fun us ms ws => pm idx (us ++ ms ++ ws)) hms (fun r1 r2 r3 => pm_vals ((r1.append r2).append r3) idx) (fun dk doc pm D an cdv ct us mv ws => h dk doc pm D an cdv ct us mv ws)
  refine ⟨fun pins s σ H Q I hq => wpAny_Call_Name_kw (ld_glob I hg gm ?_ hdb)⟩
  obtain ⟨l1, l2, q2⟩ := (show ([] : List V).length = 0 ∧ ([] : List V).length = 0 ∧ _ from hq)
  exact PySem.W.callWith_K0 I.kIn F.kp (run_fnNS (n := 0) (ks := []) (us := []) (ws := []) (vs := []) (zs := []) G hr hb (passAt tk' σ) I .nil .nil rfl rfl q2)
end
/-- a def of a class keeps its function -/
theorem okN {P : Program} {w : World} {K : PySem.W.Frag} {mg : Str → Option Value} {base : Heap} {Γ : Gm} {x qual : Str} {st : Stmt} {f : Addr} {fd : FuncData} {N ps : List Str} {k : Nat} {b : MS} {kws : List (Str × V)} (F : FunD K x qual (defArgs st) (defBody st) (defScope st) [] kws f fd) (S : FnScope N ps (defScope st))
    (hbody : ∀ (cdv : Value) (A : Around) (outer : List PySem.Env) (s : Shared) (H : Hp) (E : XK), Room k (A.deeper (envOfC qual (defScope st) s.heap.objs.size f cdv)) →
      ∃ t, PSs (cxOf (L2.CX P w) P w K mg base N qual (defScope st) f cdv A outer s H E) (defBody st) t ∧ SV Γ (fun cls d _ H => E cls d H) t b) :
    FnOk P w K mg base (L2.CX P w) (k + 1) f fd ps (FM Γ (mDef N.length ps.length b)) :=
  F.ok S (fun vs H Q E ⟨ω, ds, μ, hg, r, hw, h⟩ => by
    unfold mDef at h
    split at h
    · rename_i hl
      rw [r.len]
      exact hl
    · exact h.elim) fun cdv A outer s H vs Q E hr ⟨ω, ds, μ, hg, r, hw, h⟩ => by
    obtain ⟨t, h1, hq⟩ := hbody cdv A outer s H E hr
    refine ⟨t, h1, hq _ _ H ⟨ω, _, μ, hg, EnvR.start r N, hw, ?_⟩⟩
    unfold mDef at h
    split at h
    · rename_i hl
      rw [← hl] at h
      revert h
      cases b (ds.map some ++ List.replicate (N.length - ds.length) none) μ with
      | nx δ' μ' => exact fun h σ' ω' H' l w' e' => h .non ω' H' l w' .non
      | rt d μ' => exact fun h => h
      | bk δ' μ' => exact fun h => h.elim
      | ct δ' μ' => exact fun h => h.elim
      | ex n ns es δ' μ' => exact fun h dd σ' ω' H' l w' e' x => h dd ω' H' l w' x
      | no => exact fun h => h
    · exact h.elim
theorem funN_mk {K : PySem.W.Frag} {x qual : Str} {st : Stmt} {f D : Addr} {oc : Value} {od an : Option Addr} {osl : Array (Option Value)} {doc pm cdv ct : Value} {kws : List (Str × V)} (l : K.lookup f = some ⟨oc, od, .func (PySem.W.fnOf x qual (defArgs st) (defBody st) (defScope st) .none (.ref D) doc pm an cdv ct), osl⟩)
    (c : PySem.W.codeIn K cdv qual = true) (k : PySem.W.keepIn K (.ref f) = true) (h : ∀ q ∈ kws, ∃ u, PySem.W.nsIn K D q.1 = some (some u) ∧ RelV q.2 u) :
    FunD K x qual (defArgs st) (defBody st) (defScope st) [] kws f (PySem.W.fnOf x qual (defArgs st) (defBody st) (defScope st) .none (.ref D) doc pm an cdv ct) :=
  ⟨⟨oc, od, _, _, doc, pm, an, cdv, ct, osl, rfl, l, c, .inl ⟨rfl, rfl⟩, .inr ⟨D, rfl, h⟩⟩, k⟩
theorem funN_of {K : PySem.W.Frag} {x qual : Str} {st : Stmt} {f : Addr} {fd : FuncData} (F : Fun K x qual st f fd) : FunD K x qual (defArgs st) (defBody st) (defScope st) [] [] f fd := by
  obtain ⟨oc, od, kV, doc, pm, an, cdv, ct, osl, rfl, lk, hcd⟩ := F.ex
  exact ⟨⟨oc, od, _, kV, doc, pm, an, cdv, ct, osl, rfl, lk, hcd, .inl ⟨rfl, rfl⟩, .inl rfl⟩, F.kp⟩
/-- facts about fields by a table -/
def fldT (rows : List (Nat × Str)) : Nat → Str → Bool := fun n f => rows.any fun r => r.1 == n && r.2 == f
theorem fldT_ok {K : PySem.W.Frag} {Γ : Gm} {rows : List (Nat × Str)} (h : ∀ r ∈ rows, Cls K (Γ.c r.1) ∧ NoAttr K (Γ.c r.1) r.2) : InsOk K Γ (fldT rows) := fun n f e => by
  obtain ⟨r, hr, q⟩ := List.any_eq_true.mp e
  rw [Bool.and_eq_true, beq_iff_eq, beq_iff_eq] at q
  obtain ⟨rfl, rfl⟩ := q
  exact h r hr
theorem fldX_ok {K : PySem.W.Frag} {Γ : Gm} {rows : List (Nat × Str)} (h : ∀ r ∈ rows, ExC K (Γ.c r.1) ∧ PySem.W.findIn K (.ref (Γ.c r.1)) r.2 = some none) : NoOk K Γ (fldT rows) := fun n f e => by
  obtain ⟨r, hr, q⟩ := List.any_eq_true.mp e
  rw [Bool.and_eq_true, beq_iff_eq, beq_iff_eq] at q
  obtain ⟨rfl, rfl⟩ := q
  exact h r hr
end DM

set_option linter.all false
set_option maxRecDepth 100000
set_option maxHeartbeats 4000000
/-! DMB: sorted texts; a target with a rest. -/
namespace DM
open PySem PySem.Spec PyProof.Rows L2
open Classical
def ltS (x y : Str) : Bool := !decide (y.cps.toList < x.cps.toList)
theorem ltS_le {x y : Str} : ltS x y = true ↔ x.cps.toList ≤ y.cps.toList := by
  unfold ltS
  simp
theorem ltS_trans {x y z : Str} (h : ltS x y = true) (k : ltS y z = true) : ltS x z = true := ltS_le.mpr (List.le_trans (ltS_le.mp h) (ltS_le.mp k))
theorem ltS_total (x y : Str) : (ltS x y || ltS y x) = true := by
  rw [Bool.or_eq_true, ltS_le, ltS_le]
  exact List.le_total _ _
theorem ltS_anti {x y : Str} (h : ltS x y = true) (k : ltS y x = true) : x = y := Str.ext' (Array.toList_inj.mp (List.le_antisymm (ltS_le.mp h) (ltS_le.mp k)))
def sortT (l : List Str) : List Str := l.mergeSort ltS
theorem sortT_perm (l : List Str) : (sortT l).Perm l := List.mergeSort_perm l ltS
theorem sortT_pw (l : List Str) : (sortT l).Pairwise fun x y => ltS x y = true := List.pairwise_mergeSort (le := ltS) (fun x y z h k => ltS_trans (x := x) (y := y) (z := z) h k) (fun x y => ltS_total x y) l
theorem rising_pw : ∀ (l : List Str) (p : Str), risingS p l = true → (p :: l).Pairwise fun x y => ltS x y = true
  | [], p, _ => by simp
  | x :: r, p, h => by
    unfold risingS at h
    rw [Bool.and_eq_true] at h
    have ih := rising_pw r x h.2
    have hpx : ltS p x = true := by
      unfold ltS
      rw [← ltCps_eq]
      exact h.1
    rw [List.pairwise_cons] at ih ⊢
    refine ⟨fun y hy => ?_, List.pairwise_cons.mpr ih⟩
    rcases List.mem_cons.mp hy with rfl | hy
    · exact hpx
    · exact ltS_trans hpx (ih.1 y hy)
theorem sorted_pw : ∀ {l : List Str}, sortedS l = true → l.Pairwise fun x y => ltS x y = true
  | [], _ => List.Pairwise.nil
  | x :: r, h => rising_pw r x h
theorem sorted_eq {l m : List Str} (p : l.Perm m) (h : sortedS l = true) : l = sortT m :=
  List.Perm.eq_of_pairwise (le := fun x y => ltS x y = true) (fun x y _ _ h k => ltS_anti h k) (sorted_pw h) (sortT_pw m) (p.trans (sortT_perm m).symm)
/-! sorted(d), sorted(texts) -/
def asTK : List (Key × Dt) → Option (List Str)
  | [] => some []
  | (.inr x, _) :: r => (asTK r).map (x :: ·)
  | _ => none
theorem asTK_ok : ∀ {kvs : List (Key × Dt)} {ks : List Str}, asTK kvs = some ks → kvs.map (·.1) = ks.map Sum.inr
  | [], ks, h => by cases h; rfl
  | (.inr x, _) :: r, ks, h => by
    unfold asTK at h
    obtain ⟨l, e, rfl⟩ := Option.map_eq_some_iff.mp h
    rw [List.map_cons, List.map_cons, asTK_ok e]
  | (.inl x, _) :: r, ks, h => by cases h
def rSortU (K : PySem.W.Frag) : List V → Hp → VK → Prop := fun xs H Q => rSortedS K xs H Q ∨ ∃ (a : Addr) (kvs : List (Key × V)) (ks : List Str), xs = [.ref a] ∧ Rd H a (.dK kvs) ∧ kvs.map (·.1) = ks.map Sum.inr ∧ ks.length < 64 ∧
    ∀ ys p, ys.Perm ks → sortedS ys = true → H p = none → Q (.ref p) (upd H p (.lst (ys.map V.str)))
theorem k_sortU {X : Cx} {K : PySem.W.Frag} (hK : X.K = K) (hc : X.calm = true) : CallR X (.builtin "sorted") (rSortU K) := fun pins s σ H xs us Q I r h => by
  subst hK
  rcases h with h | h
  · exact cr_sortedS pins s σ H xs us Q I r h
  · exact call_sortedD hc pins s σ H xs us Q I r h
def cSort (ds : List Dt) (μ : Mem) : R Dt := match ds with
  | [d] => match (asL μ d).bind asT with
    | some ks => if ks.length < 64 then .ok (.lst (strsD (sortT ks))) μ else .no
    | none => match (asK μ d).bind asTK with
      | some ks => if ks.length < 64 then .ok (.lst (strsD (sortT ks))) μ else .no
      | none => .no
  | _ => .no
def cSortN (ds : List Dt) (μ : Mem) : R Dt := match ds with
  | [d] => match (asL μ d).bind asT with
    | some ks => if ks.length < 64 then .ok (.ptr μ.length) (μ ++ [.lst (strsD (sortT ks))]) else .no
    | none => match (asK μ d).bind asTK with
      | some ks => if ks.length < 64 then .ok (.ptr μ.length) (μ ++ [.lst (strsD (sortT ks))]) else .no
      | none => .no
  | _ => .no
section
variable {Γ : Gm} {W : WX} {K : PySem.W.Frag}
theorem sort_src {ω : Wd} {μ : Mem} {H : Hp} {v : V} {d : Dt} {Q : VK} (w : WR ω μ H) (rv : Rp ω v d) : (∀ ks, (asL μ d).bind asT = some ks → ks.length < 64 → (∀ p, H p = none → Q (.ref p) (upd H p (.lst ((sortT ks).map V.str)))) → rSortU K [v] H Q) ∧
    ∀ ks, (asK μ d).bind asTK = some ks → ks.length < 64 → (∀ p, H p = none → Q (.ref p) (upd H p (.lst ((sortT ks).map V.str)))) → rSortU K [v] H Q := by
  refine ⟨fun ks e hl q => ?_, fun ks e hl q => ?_⟩
  · obtain ⟨es, e1, e2⟩ := Option.bind_eq_some_iff.mp e
    obtain ⟨p, ys, rfl, hq, rr⟩ := asL_ok w rv e1
    rw [asT_eq e2] at rr
    have := rr.of_strs
    subst this
    refine .inl ⟨p, ks, rfl, .inl (.inl hq), hl, fun ys p' hp hs hn => ?_⟩
    rw [sorted_eq hp hs]
    exact q p' hn
  · obtain ⟨kvs, e1, e2⟩ := Option.bind_eq_some_iff.mp e
    obtain ⟨i, p, vs, rfl, rfl, hα, hB, hx, rk⟩ := asK_ok w rv e1
    refine .inr ⟨p, vs, ks, rfl, .inl hx, by rw [rk.keys]; exact asTK_ok e2, hl, fun ys p' hp hs hn => ?_⟩
    rw [sorted_eq hp hs]
    exact q p' hn
theorem rc_sort : RC Γ (rSortU K) cSort := fun W ω σ μ H xs ds Q hg w r h => by
  unfold cSort at h
  split at h
  · obtain ⟨v, rfl, rv⟩ := r.one
    obtain ⟨s1, s2⟩ := sort_src (K := K) (Q := Q) w rv
    split at h
    · rename_i ks e
      split at h
      · rename_i hl
        exact s1 ks e hl fun p hp => h.new w (RpL.strs _) hp
      · exact h.elim
    · split at h
      · rename_i ks e
        split at h
        · rename_i hl
          exact s2 ks e hl fun p hp => h.new w (RpL.strs _) hp
        · exact h.elim
      · exact h.elim
  · exact h.elim
theorem rc_sortN : RC Γ (rSortU K) cSortN := fun W ω σ μ H xs ds Q hg w r h => by
  unfold cSortN at h
  split at h
  · obtain ⟨v, rfl, rv⟩ := r.one
    obtain ⟨s1, s2⟩ := sort_src (K := K) (Q := Q) w rv
    split at h
    · rename_i ks e
      split at h
      · rename_i hl
        exact s1 ks e hl fun p hp => h.newM w (RpL.strs _) hp
      · exact h.elim
    · split at h
      · rename_i ks e
        split at h
        · rename_i hl
          exact s2 ks e hl fun p hp => h.newM w (RpL.strs _) hp
        · exact h.elim
      · exact h.elim
  · exact h.elim
end
end DM

set_option linter.all false
set_option maxRecDepth 100000
set_option maxHeartbeats 4000000
/-! DMC: first, *rest = a tuple. -/
namespace DM
open PySem PySem.Spec PyProof.Rows L2
section
variable {prog : Program} {w : World} {A : Around} {E : Value → Shared → Prop}
/-- what is left of a tuple that is walked -/
theorem walks_rest (hh : A.handled = none) {it t : Addr} (hne : t ≠ it) (items : Array Value) (k : Nat) (hk : k ≤ items.size) :
    WalksS prog w A it [it, t] [it] (fun a b => b = a) (items.size - k) (fun i v => items[k + i]? = some v) (fun i s => IsTupIter s.heap it t (k + i) ∧ IsTup s.heap t items) where
  sub := fun b hb => by rw [List.mem_singleton.mp hb]; simp
  grefl := fun _ => rfl
  gtrans := fun _ _ _ h1 h2 => h2.trans h1
  frame := fun i s h' tk st _ hk' => by
    obtain ⟨⟨o, ho, r⟩, ⟨o2, ho2, r2⟩⟩ := st
    exact ⟨⟨o, hk' it (by simp) _ ho, r⟩, ⟨o2, hk' t (by simp) _ ho2, r2⟩⟩
  item := fun i s Q E hi st hQ => by
    have hlt : k + i < items.size := by omega
    refine next_tuple_item st.1 st.2 (x := items[k + i]) (by simp [hlt]) fun h' hit hs => ?_
    exact hQ _ _ (by simp [hlt]) ⟨hit, st.2.extBut hs.extBut hne⟩ ⟨fun b o hb e => hs.extBut b o (fun z => hb (by simp [z])) e, rfl, rfl, rfl, Nat.le_refl _⟩
  done := fun s Q E st hQ => by
    have hx : items[k + (items.size - k)]? = none := by
      rw [Array.getElem?_eq_none_iff]
      omega
    exact next_tuple_end hh st.1 st.2 hx fun h' he => hQ _ ⟨fun b o hb e => he b o (fun z => hb (by simp [z])) e, rfl, rfl, rfl, Nat.le_refl _⟩
  self := fun i s Q E st hQ => wpAny_pyIter_tupleiter st.1 hQ
theorem rest_items {items : Array Value} {acc : Array Value} {x : Value} {r : List Value} (hi : items.toList = x :: r) (h : ItemsOf (fun i v => items[1 + i]? = some v) acc (items.size - 1)) : acc.toList = r := by
  have hs : items.size = r.length + 1 := by
    rw [← Array.length_toList, hi]
    rfl
  apply List.ext_getElem?
  intro j
  by_cases hj : j < acc.size
  · have e1 : acc[j]? = some acc[j] := by simp [hj]
    have e2 := h.2 j _ e1
    rw [Array.getElem?_toList, e1]
    have e3 : items.toList[1 + j]? = some acc[j] := by rw [Array.getElem?_toList]; exact e2
    rw [hi, Nat.add_comm, List.getElem?_cons_succ] at e3
    exact e3.symm
  · have h1 := h.1
    rw [List.getElem?_eq_none (by rw [Array.length_toList]; omega), List.getElem?_eq_none (by omega)]
theorem assign_star {env : PySem.Env} {elts : List Expr} {c : Nat} {pos : Pos} {t : Addr} {items : Array Value} {x : Value} {r : List Value} {s : Shared} {Q : Unit → Shared → Prop} (hh : A.handled = none) (ht : IsTup s.heap t items) (hi : items.toList = x :: r) (hz : items.size ≤ sizeLine)
    (hn : (assignEach elts env).length = 2) (hst : (assignEach elts env).findIdx? (·.1) = some 1)
    (h : ∀ (h' : Heap) (tk : Nat), (∀ b o, s.heap.get? b = some o → h'.get? b = some o) → wpAny (model prog w) A (assignInOrder ((assignEach elts env).map (·.2)) [x, .ref h'.objs.size]) Q E { s with heap := h'.push { cls := .type "list", data := .seq r.toArray }, toks := tk }) :
    wpAny (model prog w) A (assign (.Tuple elts c pos) env (.ref t)) Q E s := by
  have hlt : t ≠ s.heap.objs.size := by
    obtain ⟨o, ho, _⟩ := ht
    exact Nat.ne_of_lt (Heap.lt_size ho)
  have hs1 : 1 ≤ items.size := by
    rw [← Array.length_toList, hi]
    simp
  rw [assign_Tuple]
  refine wpAny_bind (wpAny_standAt ?_)
  unfold unpack
  rw [hn, hst]
  refine wpAny_bind (wpAny_holding ?_)
  unfold unpackItems
  refine wpAny_bind ?_
  unfold notIterableAtAll
  refine wpAny_bind (wpAny_specialOf ht.typeIs slot_tuple_iter.lookup ?_)
  refine wpAny_pure ?_
  simp only [Bool.false_eq_true, if_false]
  refine wpAny_bind (wpAny_holding (iter_tuple ht ?_))
  refine wpAny_bind (wpAny_holding (draw_tuple hlt 1 0 _ _ ⟨_, Heap.get?_push_size _ rfl, rfl, rfl⟩ (ht.push _) (by omega) fun h1 hit1 hs1' => ?_))
  have hfst : List.take 1 (List.drop 0 items.toList) = [x] := by rw [hi]; rfl
  rw [hfst]
  rw [if_neg (by simp)]
  have ht1 : IsTup h1 t items := (ht.push _).extBut hs1'.extBut hlt
  have keep1 : ∀ b o, s.heap.get? b = some o → h1.get? b = some o := fun b o e => hs1'.extBut b o (Nat.ne_of_lt (Heap.lt_size e)) (Heap.get?_push_of_some _ e)
  have lt1 : s.heap.objs.size < h1.objs.size := by
    obtain ⟨o, ho, _⟩ := hit1
    exact Heap.lt_size ho
  refine wpAny_bind (wpAny_holding (wpAny_collect_iter (I := s.heap.objs.size) (.inr (.inr (.inr rfl))) (walks_rest (A := A.in1) hh hlt items 1 (by omega)) (fun i s2 st => st.1.typeIs) ⟨hit1, ht1⟩ (fun b hb => ?_) (by simp) (fun s2 acc hm hacc => ?_) (by omega)))
  · rcases List.mem_cons.mp hb with rfl | hb
    · exact lt1
    · rw [List.mem_singleton.mp hb]
      obtain ⟨o, ho, _⟩ := ht1
      exact Heap.lt_size ho
  · rw [rest_items hi hacc]
    rw [if_neg (by simp)]
    obtain ⟨h2, g2, d2, tk2, os2⟩ := s2
    have e1 := hm.gens
    have e2 := hm.drawn
    have e3 := hm.os
    dsimp only at e1 e2 e3
    subst e1 e2 e3
    have keep2 : ∀ b o, s.heap.get? b = some o → h2.get? b = some o := fun b o e => hm.heap b o (fun z => by
      have := Heap.lt_size e
      rw [List.mem_singleton.mp z] at this
      exact absurd this (Nat.lt_irrefl _)) (keep1 b o e)
    have etake : r.take (r.length - (2 - 1 - 1)) = r := by simp
    have edrop : r.drop (r.length - (2 - 1 - 1)) = [] := by simp
    rw [etake, edrop]
    have hrl : r.length ≤ sizeLine := by
      have : items.toList.length = r.length + 1 := by rw [hi]; rfl
      rw [Array.length_toList] at this
      omega
    refine wpAny_bind (wpAny_newList (hsz := hrl) (wpAny_pure ?_))
    rw [List.append_nil]
    exact h h2 tk2 keep2
end
/-- first, *rest = a tuple; the rest is a new list -/
def gStar (K : PySem.W.Frag) (t u : TG) : TG := fun v σ H Q => ∃ a x xs, v = .ref a ∧ SqT K H a (x :: xs) ∧ ∀ q, H q = none → t x σ (upd H q (.lst xs)) fun σ' H' => u (.ref q) σ' H' Q
theorem k_star {X : Cx} {K : PySem.W.Frag} (hK : X.K = K) {e1 e2 : Expr} {p pos : Pos} {k : Nat} {t u : TG} (hc : X.calm = true) (h1 : PG X e1 t) (h2 : PG X e2 u)
    (hn : (assignEach [e1, .Starred e2 p] X.env).length = 2 := by rfl) (hst : (assignEach [e1, .Starred e2 p] X.env).findIdx? (·.1) = some 1 := by rfl)
    (hm : (assignEach [e1, .Starred e2 p] X.env).map (·.2) = [assign e1 X.env, assign e2 X.env] := by rfl) : PG X (.Tuple [e1, .Starred e2 p] k pos) (gStar K t u) := by
  subst hK
  refine ⟨fun pins s σ H v w Q I r hw => ?_⟩
  obtain ⟨a, x, xs, e, hq, hw⟩ := hw
  subst e
  cases r
  obtain ⟨its, rv, ht, hz⟩ := I.tuple hq
  cases rv with
  | @cons _ y _ ys ry rys =>
    have hzs : (y :: ys).toArray.size ≤ sizeLine := by
      rw [List.size_toArray, List.length_cons, ← rys.length]
      exact hz
    refine assign_star (I.ok.hd hc) ht rfl hzs hn hst fun h' tk keep => ?_
    rw [hm]
    have J1 : Inv X pins σ H { s with heap := h', toks := tk } := I.kept (t' := tk) keep
    have hf : H h'.objs.size = none := J1.hok.fresh (Nat.le_refl _)
    have J : Inv X pins σ (upd H h'.objs.size (.lst xs)) { s with heap := h'.push { cls := .type "list", data := .seq ys.toArray }, toks := tk } := by
      refine J1.laid (t' := tk) (fun b o q => Heap.get?_push_of_some _ q) (Nat.le_refl _) ?_
      exact ⟨Nat.le_trans (Nat.le_succ _) hz, ys, 0, rys, Heap.get?_push_size _ rfl⟩
    refine assignInOrder_cons (thn (h1.run pins _ σ _ x y _ J ry (hw _ hf)) fun _ s1 z => ?_)
    obtain ⟨σ1, H1, I1, q1⟩ := z
    exact assignInOrder_cons (thn (h2.run pins s1 σ1 H1 (.ref h'.objs.size) (.ref h'.objs.size) _ I1 rfl q1) fun _ s2 z => assignInOrder_nil z)
def gStarM (g u : MG) : MG := fun d δ μ => match d with
  | .tup (x :: r) => (g x δ μ).bind fun δ' => u (.lst r) δ' μ
  | _ => none
theorem gv_star {K : PySem.W.Frag} {t v : TG} {g u : MG} (h1 : GV t g) (h2 : GV v u) : GV (gStar K t v) (gStarM g u) := fun ω μ H x a σ δ δ' Q w r e h q => by
  unfold gStarM at h
  split at h
  · rename_i d ds
    obtain ⟨δ1, e1, e2⟩ := Option.bind_eq_some_iff.mp h
    cases r with
    | tup hb rr =>
      cases rr with
      | cons ra rs =>
        refine ⟨_, _, _, rfl, .inl (.inl (w.x _ _ hb)), fun p hp => ?_⟩
        obtain ⟨l2, w2⟩ := w.newB (u := .lst _) hp
        refine h1 _ μ _ _ _ σ δ δ1 _ w2 (ra.mono l2) (e.mono l2) e1 fun σ1 ω1 H1 l3 w3 e3 => ?_
        exact h2 ω1 μ H1 _ _ σ1 δ1 δ' Q w3 (.lst (l3.b _ _ upd_same) ((rs.mono l2).mono l3)) e3 e2 fun σ4 ω4 H4 l4 w4 e4 => q σ4 ω4 H4 (l2.trans (l3.trans l4)) w4 e4
  · cases h
end DM

set_option linter.all false
set_option maxRecDepth 100000
set_option maxHeartbeats 4000000
/-! DMD: except (A, B, ..) as e. -/
namespace DM
open PySem PySem.Spec PyProof.Rows L2
section
variable {M : Model} {A : Around} {E : Value → Shared → Prop} {s : Shared}
theorem forIn_pass {α : Type} {f : α → PUnit → Sem (ForInStep PUnit)} {Q : PUnit → Shared → Prop} (q : Q ⟨⟩ s) : ∀ {cs : List α}, (∀ c ∈ cs, ∀ {Q : ForInStep PUnit → Shared → Prop}, Q (.yield ⟨⟩) s → wpAny M A (f c ⟨⟩) Q E s) → wpAny M A (forIn cs ⟨⟩ f) Q E s
  | [], _ => by
    rw [List.forIn_nil]
    exact wpAny_pure q
  | c :: cs, h => by
    rw [List.forIn_cons]
    exact wpAny_bind (h c List.mem_cons_self (forIn_pass q fun c hc => h c (List.mem_cons_of_mem _ hc)))
theorem forIn_first {α β : Type} {f : α → β → Sem (ForInStep β)} {d0 d1 : β} {m : α → Bool} {Q : β → Shared → Prop} : ∀ {cs : List α}, (∀ c ∈ cs, ∀ {Q : ForInStep β → Shared → Prop}, Q (if m c then .done d1 else .yield d0) s → wpAny M A (f c d0) Q E s) → Q (if cs.any m then d1 else d0) s → wpAny M A (forIn cs d0 f) Q E s
  | [], _, q => by
    rw [List.forIn_nil]
    exact wpAny_pure q
  | c :: cs, h, q => by
    rw [List.forIn_cons]
    refine wpAny_bind (h c List.mem_cons_self ?_)
    rw [List.any_cons] at q
    cases e : m c with
    | true =>
      rw [e] at q
      exact wpAny_pure q
    | false =>
      rw [e] at q
      exact forIn_first (fun c hc => h c (List.mem_cons_of_mem _ hc)) q
end
theorem exmAny_all {K : PySem.W.Frag} {cls : Value} : ∀ {cs : List Value} {b : Bool}, PySem.W.exmAny K cls cs = some b → (∀ c ∈ cs, ∃ b1, PySem.W.exmOne K cls c = some b1) ∧ b = cs.any fun c => PySem.W.exmOne K cls c == some true
  | [], b, h => by
    cases h
    exact ⟨fun c hc => (nomatch hc), rfl⟩
  | c :: cs, b, h => by
    obtain ⟨b1, d1, h1, h2, rfl⟩ := PySem.W.exmAny_cons h
    obtain ⟨r1, rfl⟩ := exmAny_all h2
    refine ⟨fun x hx => ?_, ?_⟩
    · rcases List.mem_cons.mp hx with rfl | hx
      · exact ⟨b1, h1⟩
      · exact r1 x hx
    · rw [List.any_cons, h1]
      cases b1 <;> rfl
theorem exm_tupL {M : Model} {K : PySem.W.Frag} {cs : List Value} {cls : Value} {tp e : Addr} {b : Bool} {h : Heap} (X : K.In h) (LT : PySem.W.Looks M h (typeOf (.ref e)) cls) (hp : h.get? tp = some { cls := .type "tuple", data := .seq cs.toArray }) (hx : PySem.W.exmAny K cls cs = some b) :
    PySem.W.Looks M h (excMatches (.ref e) (.ref tp)) b := by
  intro A Q E s k₀ q
  obtain ⟨hh, g, d, tk, os⟩ := s
  have k : ∀ b o, h.get? b = some o → hh.get? b = some o := k₀
  have L0 : PySem.W.Looks M h (isInstance (.ref tp) (.type "tuple")) true := ((PySem.W.Looks.ld hp).andThen .now).andThen (PySem.W.Looks.of_pure isSubtype_tuple_tuple)
  obtain ⟨all, rfl⟩ := exmAny_all hx
  have hp' := k _ _ hp
  unfold excMatches
  refine wpAny_bind ((L0.keeps k).at ?_)
  dsimp only
  rw [if_pos rfl]
  first
    | refine wpAny_bind (wpAny_seqItems hp' rfl ?_)
    | refine wpAny_bind (wpAny_bind (wpAny_seqItems hp' rfl (wpAny_pure ?_)))
  dsimp only [Option.getD_some, Option.getD]
  refine wpAny_bind (wpAny_pure (wpAny_bind (forIn_pass ?_ fun c hc => ?_)))
  · refine wpAny_bind ((LT.keeps k).at ?_)
    refine wpAny_bind (forIn_first (d1 := (some true, ())) (m := fun c => PySem.W.exmOne K cls c == some true) (fun c hc => ?_) ?_)
    · intro Q q
      obtain ⟨b1, h1⟩ := all c hc
      obtain ⟨_, S1⟩ := PySem.W.exm_cls (M := M) X h1
      refine wpAny_bind ((S1.keeps k).at ?_)
      rw [h1] at q
      cases b1 <;> exact wpAny_pure q
    · generalize (cs.any fun c => PySem.W.exmOne K cls c == some true) = b at q ⊢
      cases b <;> exact wpAny_pure q
  · intro Q q
    obtain ⟨b1, h1⟩ := all c hc
    obtain ⟨e1, _⟩ := PySem.W.exm_cls (M := M) X h1
    refine wpAny_bind ((e1.keeps k).at ?_)
    exact wpAny_pure q
theorem flying_push {B : Heap} {l : List PySem.Env} {e : Addr} {Z : Obj → Prop} {h : Heap} {o : Obj} (x : HandSPX.FlyingZ B l e Z h) : HandSPX.FlyingZ B l e Z (h.push o) := by
  obtain ⟨k, n, f, oe, vs, T, oT, ts, h1, h2, h3, h4, h5, h6, h7, h8, h9⟩ := x
  exact ⟨fun b u q => Heap.get?_push_of_some _ (k b u q), n, Heap.FunFrames.of_keeps (fun b u q _ => ⟨u, Heap.get?_push_of_some _ q, rfl⟩) f, oe, vs, T, oT, ts, Heap.get?_push_of_some _ h1, h2, h3, h4, h5, h6, Heap.get?_push_of_some _ h7, h8, h9⟩
/-- a name in an except's tuple -/
def nmE (x : Str × Pos) : Expr := .Name x.1 x.2
def NamesL (X : Cx) : List (Str × Pos) → List Value → Prop
  | [], [] => True
  | x :: xs, c :: cs => Names X x.1 c ∧ NamesL X xs cs
  | _, _ => False
theorem NamesL.nil {X : Cx} : NamesL X [] [] := trivial
theorem NamesL.cons {X : Cx} {x : Str} {p : Pos} {xs : List (Str × Pos)} {c : Value} {cs : List Value} (h : Names X x c) (t : NamesL X xs cs) : NamesL X ((x, p) :: xs) (c :: cs) := ⟨h, t⟩
theorem names_read {X : Cx} {M : Model} {A : Around} {E : Value → Shared → Prop} {s : Shared} {env : PySem.Env} {pos : Pos} (rd : ∀ x np c, Names X x c → ∀ {Q : Value → Shared → Prop} {E : Value → Shared → Prop}, Q c s → wpAny M A (eval (.Name x np) env) Q E s) :
    ∀ {xs : List (Str × Pos)} {cs : List Value} {Q : List Value → Shared → Prop}, NamesL X xs cs → Q cs s → wpAny M A (spliced (backTo pos (starEach (xs.map nmE) env))) Q E s
  | [], [], Q, _, q => spliced_none q
  | x :: xs, c :: cs, Q, h, q => by
    refine spliced_more ?_ (by rfl)
    exact rd x.1 x.2 c h.1 (names_read rd h.2 q)
  | [], _ :: _, _, h, _ => h.elim
  | _ :: _, [], _, h, _ => h.elim
/-- what the clause 'except (x, ..) as n' wishes: the error at a is tracked; slot i is n's -/
def wKeepL (K : PySem.W.Frag) (cs : List Value) (i : Nat) (ts : TS) (Wout : WX) (D : Ends) : WX := fun cls d σ H =>
  ∃ b, PySem.W.exmAny K cls cs = some b ∧ (b = true → ∀ a, H a = none → ts { nx := fun σ' H' => D.nx (σ'.set i none) H', rt := D.rt, bk := fun σ' H' => D.bk (σ'.set i none) H', ct := fun σ' H' => D.ct (σ'.set i none) H' } (σ.set i (some (.ref a))) (upd H a (exK cls d a))) ∧
    (b = false → Wout cls d σ H)
section
variable {X : Cx} {xs : List (Str × Pos)} {n : Str} {cs : List Value} {i tk0 : Nat} {body suite : List Stmt} {b₀ : Stmt} {tp0 pos pos' : Pos} {tb : WX → TS} {ts : TS} {Wout : WX}
theorem ps_try_keepL (hs : X.stack = X.env :: X.outer) (hf : X.env.frame = some X.env.locals) (hex : X.ex = []) (hN : X.N.Nodup) (hi : X.N[i]? = some n) (hln : X.env.kindOf n = some .local) (hc : NamesL X xs cs) (hlen : cs.length ≤ 1000) (tk : Takes X Wout)
    (hb : ∀ (W : WX) (pn : List (Addr × Obj)) (xe : Value → Shared → Prop), Takes (X.tr pn xe) W → PassesOwn (model X.prog X.w) X.A X.env xe → PSs (X.tr pn xe) body (tb W))
    (hsu : ∀ a : Addr, PSs (supX X a) (b₀ :: suite) ts) :
    PS X (.Try body [.ExceptHandler (some (.Tuple (xs.map nmE) tk0 tp0)) (some n) (b₀ :: suite) pos'] [] [] pos) (fun D σ H => tb (wKeepL X.K cs i ts Wout D) D σ H) := by
  refine ⟨fun pins s σ H D I h => ?_⟩
  have ok := I.ok
  have hfr : X.A.frames = some (X.env :: X.outer) := by rw [ok.frames, hs]
  have hloc : Loc X.env.scope n := .inl hln
  refine wpAny_Try_except ?_
  refine wpAny_mono ((hb (wKeepL X.K cs i ts Wout D) (X.pn ++ pins) (fun e s₁ => wpAny (model X.prog X.w) X.A (noteFrame e X.env) (fun _ s₂ => wpAny (model X.prog X.w) X.A (setFlight e none) (fun _ s₃ =>
    wpAny (model X.prog X.w) X.A (handleBy e X.env [.ExceptHandler (some (.Tuple (xs.map nmE) tk0 tp0)) (some n) (b₀ :: suite) pos']) (SP X pins D) X.xe s₃) X.xe s₂) X.xe s₁) (fun u s' xx => ?_) PassesOwn.looking).run [] s σ H D (I.toTry _) h) (fun f s1 hsp => ?_) (fun e s1 he => he)
  · obtain ⟨a, B, sI, pins', σ', H', cls, d, rfl, J', nb, up, sky, na, os, ag, b, hb1, hyes, hno⟩ := xx
    have J : Inv X pins σ' H' sI := J'.ofTry ok
    have sky' : Sky B (X.env :: X.outer) a (Zc cls d) X.env.locals s'.heap := by rw [← hs]; exact sky
    show wpAny (model X.prog X.w) X.A (noteFrame (.ref a) X.env) _ _ _
    refine Sky.land Zc.steady hfr hf sky' fun h3 fl3 up3 => ?_
    have J3 : Inv X pins σ' H' { s' with heap := h3 } := J.landed nb fl3.1 (up.trans up3) os ag
    obtain ⟨oe3, vs3, he3, hz3, hd3⟩ := fl3.there
    have notFr : ∀ {h : Heap} {o : Obj} {vs : Array Value}, h.FunFrames B (X.env :: X.outer) → h.get? a = some o → o.data = .fields vs → a ∉ frs (X.env :: X.outer) := fun {h o vs} ff e dd hm => by
      obtain ⟨_, o', e', hnf⟩ := ff.mem hm
      rw [e] at e'; cases e'
      exact hnf _ dd
    have nfr := notFr fl3.2.2.1 he3 hd3
    have nL : a ≠ X.env.locals := fun z => nfr (List.mem_filterMap.mpr ⟨X.env, List.mem_cons_self, by rw [hf, z]⟩)
    have nF : a ∉ X.fs := fun hm => by
      obtain ⟨e, he, q⟩ := List.mem_filterMap.mp hm
      exact nfr (List.mem_filterMap.mpr ⟨e, List.mem_cons_of_mem _ he, q⟩)
    have S3 := J3.suite he3 hd3 na nL nF
    refine wpAny_handleBy_cons (codeAny_handlers_test ?_) (by intro q; cases q)
    have rd : ∀ x np c, Names X x c → ∀ {Q : Value → Shared → Prop} {E : Value → Shared → Prop}, Q c { s' with heap := h3 } → wpAny (model X.prog X.w) (X.A.mark (some (.ref a))) (eval (.Name x np) X.env) Q E { s' with heap := h3 } := fun x np c hc {Q E} q => by
      obtain ⟨hg, hdbg, hm | ⟨hm, hv, hnn⟩⟩ := hc
      · exact ld_glob (X := X.suite a ((a, oe3) :: (X.pn ++ pins))) S3 hg hm q hdbg
      · exact ld_blt (X := X.suite a ((a, oe3) :: (X.pn ++ pins))) S3 hg hm hv q hnn hdbg
    refine Tuple_ (names_read rd hc ?_)
    refine wpAny_newObj_type ?_ (show cs.toArray.size ≤ sizeLine from by rw [List.size_toArray, sizeLine_eq]; omega)
    have fl5 := flying_push (o := { cls := .type "tuple", dict := none, data := .seq cs.toArray }) fl3
    have up5 := up3.trans (Heap.UpToSlots.of_keeps fun b o e => Heap.get?_push_of_some { cls := .type "tuple", dict := none, data := .seq cs.toArray } e)
    have J5 := J.landed (s' := { s' with heap := h3.push { cls := .type "tuple", dict := none, data := .seq cs.toArray } }) nb fl5.1 (up.trans up5) os ag
    have tpl : (h3.push { cls := .type "tuple", dict := none, data := .seq cs.toArray }).get? h3.objs.size = some { cls := .type "tuple", dict := none, data := .seq cs.toArray } := by heap_get
    have he5 := Heap.get?_push_of_some { cls := .type "tuple", dict := none, data := .seq cs.toArray } he3
    have LT : PySem.W.Looks (model X.prog X.w) (h3.push { cls := .type "tuple", dict := none, data := .seq cs.toArray }) (typeOf (.ref a)) cls := fun A Q E s k q => wpAny_typeOf_ref (k _ _ he5) (by rw [hz3.1]; exact q)
    have LM := exm_tupL (M := model X.prog X.w) (J5.kIn) LT tpl hb1
    refine LM.here ?_
    clear LM LT
    cases b with
    | true =>
      refine codeAny_handlers_suite_as ?_
      refine HandSPX.lands_againZ fl5 fun h4 fl4 up4 => ?_
      have J4 : Inv X pins σ' H' { s' with heap := h4 } := J.landed nb fl4.1 ((up.trans up5).trans up4) os ag
      obtain ⟨oe4, vs4, he4, hz4, hd4⟩ := fl4.there
      have S4 : Inv (supX X a) pins σ' (upd H' a (exK cls d a)) { s' with heap := h4 } := caught_track hex J J4 nb fl4.2.1 (by rw [hs]; exact nfr) nL na he4 hz4 hd4
      refine store_ok (X := supX X a) (v := .ref a) S4 hN hi hloc rfl (fun s5 S5 => ?_) (.inr hln)
      refine wpAny_mono ((hsu a).run pins s5 _ _ _ S5 (hyes rfl a na)) (fun f s6 hsp => ?_) (fun _ _ z => False.elim z)
      have end_ : ∀ {σ6 : L2.St} {H6 : Hp} {Q : Shared → Prop}, Inv (supX X a) pins σ6 H6 s6 → (∀ s7, Inv X pins (σ6.set i none) H6 s7 → Q s7) →
          wpAny (model X.prog X.w) X.A (do bindName X.env n .none; unbindBehindTheSuite X.env n pos') (fun _ s7 => Q s7) X.xe s6 := fun {σ6 H6 Q} S6 hq => gone_ok (Inv.ofSup S6 ok) hN hi hln hq
      cases f with
      | next =>
        obtain ⟨σ6, H6, S6, q6⟩ := hsp
        exact end_ S6 fun s7 J7 => ⟨_, _, J7, q6⟩
      | brk =>
        obtain ⟨σ6, H6, S6, q6⟩ := hsp
        exact end_ S6 fun s7 J7 => ⟨_, _, J7, q6⟩
      | cont =>
        obtain ⟨σ6, H6, S6, q6⟩ := hsp
        exact end_ S6 fun s7 J7 => ⟨_, _, J7, q6⟩
      | ret u =>
        obtain ⟨v6, σ6, H6, S6, r6, q6⟩ := hsp
        exact end_ S6 fun s7 J7 => ⟨_, _, _, J7, r6, q6⟩
    | false =>
      show wpAny _ X.A (handleBy (.ref a) X.env []) _ _ _
      refine wpAny_handleBy_nil ?_
      obtain ⟨k1, k2, k3, oe, vs, T, oT, ts', he, hz, hd, h1, hr⟩ := id fl5
      unfold PySem.passOn
      refine wpAny_bind (wpAny_field he hd h1 ?_)
      rw [if_neg (show ¬ ((Value.ref T == Value.none) = true) from by simp)]
      have fin : wpAny (model X.prog X.w) X.A (setFlight (.ref a) X.env.frame) (fun _ s4 => wpAny (model X.prog X.w) X.A (throw (.ref a) : Sem Flow) (SP X pins D) X.xe s4) X.xe { s' with heap := h3.push { cls := .type "tuple", dict := none, data := .seq cs.toArray } } := by
        rw [hf]
        refine HandSPX.setFlight_upZ fl5 fun h4 hh4 up4 => wpAny_throw (tk _ _ ?_)
        exact ⟨a, B, sI, pins, σ', H', cls, d, rfl, J, nb, (up.trans up5).trans up4, .inr (.inr (by rw [hs]; exact hh4)), na, os, ag, hno rfl⟩
      first
        | exact wpAny_bind (wpAny_pure (wpAny_bind fin))
        | exact wpAny_bind fin
  · cases f with
    | next =>
      obtain ⟨σ', H', J', q⟩ := hsp
      exact wpAny_execs_nil ⟨σ', H', J'.ofTry ok, q⟩
    | brk =>
      obtain ⟨σ', H', J', q⟩ := hsp
      exact ⟨σ', H', J'.ofTry ok, q⟩
    | cont =>
      obtain ⟨σ', H', J', q⟩ := hsp
      exact ⟨σ', H', J'.ofTry ok, q⟩
    | ret u =>
      obtain ⟨v, σ', H', J', r, q⟩ := hsp
      exact ⟨v, σ', H', J'.ofTry ok, r, q⟩
end
section
variable {Γ : Gm} {W : WX} {K : PySem.W.Frag}
theorem sv_tryL {cvs : List Value} {cq : Nat → Option Bool} {i : Nat} {tb : WX → TS} {ts : TS} {b s : MS} (hq : ∀ n k, cq n = some k → PySem.W.exmAny K (.ref (Γ.c n)) cvs = some k) (hb : ∀ W, SV Γ W (tb W) b) (hs : SV Γ W0 ts s) :
    SV Γ W (fun D σ H => tb (wKeepL K cvs i ts W D) D σ H) (sTry cq i b s) := fun D σ H ⟨ω, δ, μ, hg, he, hw, h⟩ => hb _ D σ H ⟨ω, δ, μ, hg, he, hw, by
  unfold sTry at h
  cases eb : b δ μ with
  | nx δ' μ' => rw [eb] at h; exact h
  | rt d μ' => rw [eb] at h; exact h
  | bk δ' μ' => rw [eb] at h; exact h
  | ct δ' μ' => rw [eb] at h; exact h
  | no => rw [eb] at h; exact h
  | ex n ns es δ' μ' =>
    rw [eb] at h
    intro dd σ' ω' H' l w e x
    cases ec : cq n with
    | none =>
      simp only [ec] at h
      exact h.elim
    | some k =>
      simp only [ec] at h
      refine ⟨k, by rw [hg]; exact hq n k ec, fun hk a na => ?_, fun hk => ?_⟩
      · subst hk
        obtain ⟨l2, w2⟩ := w.newB (u := exK (.ref (ω.Γ.c n)) dd a) na
        have r2 : Rp { ω' with B := upd ω'.B a (exK (.ref (ω.Γ.c n)) dd a) } (.ref a) (.exc n ns es) := (x.mono l2).rp (by rw [show ({ ω' with B := upd ω'.B a (exK (.ref (ω.Γ.c n)) dd a) } : Wd).Γ = ω.Γ from l.g]; exact upd_same)
        refine hs _ _ _ ⟨_, _, _, (l.trans l2).g.trans hg, (e.mono l2).set i r2, w2, ?_⟩
        have h : GoS W ω (match s (δ'.set i (some (.exc n ns es))) μ' with
          | .nx δ2 μ2 => .nx (δ2.set i none) μ2
          | .bk δ2 μ2 => .bk (δ2.set i none) μ2
          | .ct δ2 μ2 => .ct (δ2.set i none) μ2
          | .rt d μ2 => .rt d μ2
          | _ => .no) D := h
        have h := GoS.mono h (l.trans l2)
        revert h
        cases s (δ'.set i (some (.exc n ns es))) μ' with
        | nx δ2 μ2 => exact fun h σ3 ω3 H3 l3 w3 e3 => h _ ω3 H3 l3 w3 (e3.unset i)
        | bk δ2 μ2 => exact fun h σ3 ω3 H3 l3 w3 e3 => h _ ω3 H3 l3 w3 (e3.unset i)
        | ct δ2 μ2 => exact fun h σ3 ω3 H3 l3 w3 e3 => h _ ω3 H3 l3 w3 (e3.unset i)
        | rt d μ2 => exact fun h => h
        | ex n ns es δ2 μ2 => exact fun h => h.elim
        | no => exact fun h => h.elim
      · subst hk
        exact h dd σ' ω' H' l w e x⟩
end
def cqL (ks : List Nat) : Nat → Option Bool := fun n => if ks.contains n then some true else none
theorem exmAny_in {K : PySem.W.Frag} {Γ : Gm} {n : Nat} : ∀ {ks : List Nat}, (∀ k ∈ ks, PySem.W.exmOne K (.ref (Γ.c n)) (.ref (Γ.c k)) = some (n == k)) → PySem.W.exmAny K (.ref (Γ.c n)) (ks.map fun k => .ref (Γ.c k)) = some (ks.contains n)
  | [], _ => rfl
  | k :: ks, h => by
    show (match PySem.W.exmOne K (.ref (Γ.c n)) (.ref (Γ.c k)), PySem.W.exmAny K (.ref (Γ.c n)) (ks.map fun k => .ref (Γ.c k)) with | some b, some d => some (b || d) | _, _ => none) = _
    rw [h k List.mem_cons_self, exmAny_in fun k hk => h k (List.mem_cons_of_mem _ hk), List.contains_cons]
theorem cqL_ok {K : PySem.W.Frag} {Γ : Gm} {ks : List Nat} {cs : List Value} (hc : cs = ks.map fun k => .ref (Γ.c k)) (h : ∀ n ∈ ks, ∀ k ∈ ks, PySem.W.exmOne K (.ref (Γ.c n)) (.ref (Γ.c k)) = some (n == k)) : ∀ n b, cqL ks n = some b → PySem.W.exmAny K (.ref (Γ.c n)) cs = some b := fun n b e => by
  unfold cqL at e
  split at e
  · rename_i hn
    cases e
    rw [hc, exmAny_in (h n (List.contains_iff_mem.mp hn)), hn]
  · cases e
end DM

set_option linter.all false
set_option maxRecDepth 100000
set_option maxHeartbeats 4000000
/-! DME: raise C(..) where C has an __init__ of its own that keeps its parameters; C beneath one of Python's errors. -/
namespace DM
open PySem PySem.Spec PyProof.Rows L2
open Classical
/-! ### the base -/
structure Bs where
  B : String
  nw : String
  ini : String
  tl : List Value
structure BasF (b : Bs) : Prop where
  f : ExcBaseFacts b.B b.nw b.ini b.tl
  s : StoreFacts b.B b.tl "object.__setattr__" "object"
  t : NwS.TyAt b.B "__init__" b.ini
  v : bootBuiltins b.B = some (.type b.B)
  n : (b.B : Str) ≠ "__name__"
  d : ((b.B : Str) == ("__debug__" : Str)) = false

abbrev bsV : Bs := ⟨"ValueError", "ValueError.__new__", "ValueError.__init__", [.type "ValueError", .type "Exception", .type "BaseException", .type "object"]⟩
abbrev bsL : Bs := ⟨"LookupError", "LookupError.__new__", "LookupError.__init__", [.type "LookupError", .type "Exception", .type "BaseException", .type "object"]⟩
abbrev bsA : Bs := ⟨"ArithmeticError", "ArithmeticError.__new__", "ArithmeticError.__init__", [.type "ArithmeticError", .type "Exception", .type "BaseException", .type "object"]⟩
theorem basV : BasF bsV := ⟨PySem.F.excBase_ValueError, PySem.F.store_ValueError, ⟨by decide +kernel, by first | rfl | kernel_rfl, fun K => by kernel_rfl, by decide +kernel⟩, PyProof.Rows.Boot.«ValueError», by decide +kernel, by decide +kernel⟩
theorem basL : BasF bsL := ⟨PySem.F.excBase_LookupError, PySem.F.store_LookupError, ⟨by decide +kernel, by first | rfl | kernel_rfl, fun K => by kernel_rfl, by decide +kernel⟩, PyProof.Rows.Boot.«LookupError», by decide +kernel, by decide +kernel⟩
theorem basA : BasF bsA := ⟨PySem.F.excBase_ArithmeticError, PySem.F.store_ArithmeticError, ⟨by decide +kernel, by first | rfl | kernel_rfl, fun K => by kernel_rfl, by decide +kernel⟩, PyProof.Rows.Boot.«ArithmeticError», by decide +kernel, by decide +kernel⟩
/-- what the written part says of such a class -/
structure OxB (K : PySem.W.Frag) (C : Addr) (b : Bs) : Prop where
  bf : BasF b
  q : PySem.W.excInitIn K C b.tl b.nw = true
  ov : PySem.W.excOver K C b.tl = true
  hd : PySem.W.hasDictIn K C = true
  sa : PySem.W.findIn K (.ref C) "__setattr__" = some (some (.builtin "object.__setattr__"))
  exC : PySem.W.subIn K (.ref C) (.type "BaseException") = some true
  tyC : PySem.W.typeIn K (.ref C) = some (.type "type")
  kC : PySem.W.keepIn K (.ref C) = true
theorem upd_id {H : Hp} {a : Addr} {o : HO} (e : H a = some o) : upd H a o = H := funext fun c => by
  by_cases hc : c = a
  · rw [hc, upd_same, e]
  · rw [upd_ne hc]
theorem upd_twice {H : Hp} {a : Addr} {o u : HO} : upd (upd H a o) a u = upd H a u := funext fun c => by
  by_cases hc : c = a
  · rw [hc, upd_same, upd_same]
  · rw [upd_ne hc, upd_ne hc, upd_ne hc]
theorem upd_swap {H : Hp} {a d : Addr} {o u : HO} (n : d ≠ a) : upd (upd H a o) d u = upd (upd H d u) a o := funext fun c => by
  by_cases hc : c = a
  · subst hc
    rw [upd_ne n.symm, upd_same, upd_same]
  · by_cases hd : c = d
    · subst hd
      rw [upd_same, upd_ne hc, upd_same]
    · rw [upd_ne hd, upd_ne hc, upd_ne hc, upd_ne hd]
section
variable {X : Cx} {pins : List (Addr × Obj)} {σ : L2.St} {H : Hp} {s : Shared} {a C dx : Addr} {f : Str} {y : V} {u : Value} {fs : List (Str × V)} {A : Around} {b : Bs}
theorem taker_none {K : PySem.W.Frag} (hno : PySem.W.findIn K (.ref C) f = some none) : PySem.W.takerIn K C f = some none := by
  unfold PySem.W.takerIn
  rw [hno]
  rfl
/-- self.f = y, the first one -/
theorem sto_first {Q : Unit → Shared → Prop} {E : Value → Shared → Prop} (T : OxB X.K C b) (I : Inv X pins σ H s) (e : H a = some (exo a C none)) (hno : PySem.W.findIn X.K (.ref C) f = some none) (ry : RelV y u)
    (h : ∀ dx s', H dx = none → dx ≠ a → Inv X pins σ (upd (upd H dx (exd dx [(f, y)])) a (exo a C (some dx))) s' → Q () s') : wpAny (model X.prog X.w) A (setAttr (.ref a) f u) Q E s := by
  obtain ⟨t1, ho⟩ := exo_at I.hok e
  obtain ⟨cd, hc, hdct⟩ := PySem.W.any_some T.hd
  obtain ⟨hp, g, d, t, os⟩ := s
  have lt : a < hp.objs.size := Heap.lt_size ho
  have na : hp.objs.size ≠ a := Nat.ne_of_gt lt
  have nH : H hp.objs.size = none := I.hok.fresh (Nat.le_refl _)
  refine PySem.W.set_plain (od := none) I.kIn ⟨ho, rfl, rfl, trivial⟩ T.sa ?_
  refine PySem.W.osa_openX (od := none) T.bf.s I.kIn ⟨ho, rfl, rfl, trivial⟩ T.ov (taker_none hno) fun bb => ?_
  have LC : PySem.W.Looks (model X.prog X.w) hp (classData C) cd := PySem.W.looks_clsIn I.kIn hc
  refine wpAny_bind (wpAny_pure (wpAny_bind ?_))
  refine PySem.W.instanceDict_exc (c2 := .none) ho LC hdct ?_
  have e0 : (hp.push (PySem.W.dictOf [] 0)).get? hp.objs.size = some (PySem.W.dictOf [] 0) := Heap.get?_push_size hp rfl
  have en0 : (hp.push (PySem.W.dictOf [] 0)).Ns hp.objs.size (fun _ => none) := ⟨_, #[], _, e0, rfl, fun e he => absurd he (by simp), fun _ => rfl⟩
  have en := Heap.Ns1.of_empty en0
  have I1 : Inv X pins σ (upd H hp.objs.size (exd hp.objs.size [])) ⟨hp.push (PySem.W.dictOf [] 0), g, d, t, os⟩ := I.laid (t' := t) (fun c o q => Heap.get?_push_of_some _ q) (Nat.le_refl _) (exd_ok en fun _ => True.intro)
  have ho1 := Heap.get?_push_of_some (PySem.W.dictOf [] 0) ho
  have e2 : ((hp.push (PySem.W.dictOf [] 0)).update a fun o => { o with dict := some hp.objs.size }).get? a = some { cls := .ref C, dict := some hp.objs.size, data := .fields #[.ref t1, .none, .none, .none, .bool false, .none] } := Heap.get?_update_self _ ho1 rfl
  have I2 := I1.write (t' := t) (x := a) (e := a) (o := exo a C (some hp.objs.size)) (by rw [upd_ne (Ne.symm na), e]; exact True.intro) (.inl rfl) (fun c o hc q => (Heap.get?_update_other _ _ (Ne.symm hc)).trans q) ⟨_, e2⟩ (exo_ok e2)
  have e3 : ((hp.push (PySem.W.dictOf [] 0)).update a fun o => { o with dict := some hp.objs.size }).Ns1 hp.objs.size (fun _ => none) := en.at fun o q => (Heap.get?_update_other _ _ (Ne.symm na)).trans q
  show wpAny _ _ (Builtin.ObjectAttr.storeInDict hp.objs.size (.str f t) f u) _ _ _
  refine PySem.OEX.store_in_old (ns := []) e3 (fun c z => absurd rfl z) (Nat.zero_le _) fun h' tk' hn' hs => ?_
  have I3 := I2.write (t' := tk') (x := hp.objs.size) (e := hp.objs.size) (o := exd hp.objs.size [(f, y)]) (by rw [upd_ne na, upd_same]; exact True.intro) (.inl rfl) (fun c o hc q => (hs.2 c hc).trans q) (let ⟨o, _, _, q, _⟩ := hn'; ⟨o, q⟩) (exd_ok hn' (relO_put (fs := []) ry fun _ => True.intro))
  rw [upd_swap na, upd_twice] at I3
  exact h _ _ nH na I3
/-- self.f = y, a further one -/
theorem sto_next {Q : Unit → Shared → Prop} {E : Value → Shared → Prop} (T : OxB X.K C b) (I : Inv X pins σ H s) (e : H a = some (exo a C (some dx))) (ed : H dx = some (exd dx fs)) (hl : fs.length ≤ 900) (hno : PySem.W.findIn X.K (.ref C) f = some none) (ry : RelV y u)
    (h : ∀ s', Inv X pins σ (upd H dx (exd dx ((f, y) :: fs))) s' → Q () s') : wpAny (model X.prog X.w) A (setAttr (.ref a) f u) Q E s := by
  obtain ⟨t1, ho⟩ := exo_at I.hok e
  obtain ⟨mA, hns, rel⟩ := exd_at I.hok ed
  obtain ⟨cd, hc, hdct⟩ := PySem.W.any_some T.hd
  obtain ⟨hp, g, d, t, os⟩ := s
  have hw := within_of rel
  obtain ⟨oD, _, _, hoD, _, _⟩ := hns.count hw
  refine PySem.W.set_plain (od := some oD) I.kIn ⟨ho, rfl, rfl, hoD⟩ T.sa ?_
  refine PySem.W.osa_openX (od := some oD) T.bf.s I.kIn ⟨ho, rfl, rfl, hoD⟩ T.ov (taker_none hno) fun bb => ?_
  have LC : PySem.W.Looks (model X.prog X.w) hp (classData C) cd := PySem.W.looks_clsIn I.kIn hc
  refine wpAny_bind (wpAny_pure (wpAny_bind (wpAny_bind (wpAny_loadPart ho (wpAny_bind (LC.at ?_))))))
  rw [hdct]
  refine wpAny_pure (a := some dx) ?_
  refine PySem.OEX.store_in_old hns hw (by rw [List.length_map]; omega) fun h' tk' hn' hs => ?_
  exact h _ (I.write (t' := tk') (x := dx) (e := dx) (o := exd dx ((f, y) :: fs)) (by rw [ed]; exact True.intro) (.inl rfl) (fun c o hc q => (hs.2 c hc).trans q) (let ⟨o, _, _, q, _⟩ := hn'; ⟨o, q⟩) (exd_ok hn' (relO_put ry rel)))
end
/-- Base.__init__(self, ..): nothing of it is told -/
def rXi (K : PySem.W.Frag) (b : Bs) : List V → Hp → VK → Prop := fun vs H Q => ∃ (a C : Addr) (ws : List V), vs = .ref a :: ws ∧ ws.length ≤ 1000 ∧ OxB K C b ∧ H a = some (exo a C none) ∧ Q .non H
theorem call_xi {X : Cx} {b : Bs} : CallR X (.builtin b.ini) (rXi X.K b) := by
  intro pins s σ H xs us Q I r hr
  obtain ⟨a, C, ws, ev, hl, T, ea, q⟩ := hr
  subst ev
  obtain ⟨u0, ur, rfl, ra, rr⟩ : ∃ u0 ur, us = u0 :: ur ∧ RelV (.ref a) u0 ∧ Vals ws ur := by
    cases r with
    | cons p t => exact ⟨_, _, rfl, p, t⟩
  obtain rfl : u0 = Value.ref a := ra
  have hz : ur.length ≤ sizeLine := by
    rw [← Paired.length rr, sizeLine_eq]
    omega
  obtain ⟨_, _, _, _, _, _, _, _, _, _, _, _, _, _, _, _, hC, hT⟩ := PySem.W.excInit_of I.kIn T.q
  obtain ⟨t1, ho⟩ := exo_at I.hok ea
  obtain ⟨hp, g, d, t, os⟩ := s
  refine wpAny_call (PySem.HandSPX.init_base T.bf.f hT hC ho hz fun h' t2 k hx => ?_)
  have J := I.write (t' := t) (x := a) (e := a) (o := exo a C none) (by rw [ea]; exact True.intro) (.inl rfl) k ⟨_, hx⟩ (exo_ok hx)
  rw [upd_id ea] at J
  exact ⟨.non, H, J, rfl, q⟩
/-- self.f = e -/
def tOxs (K : PySem.W.Frag) (b : Bs) (f : Str) (to te : TE) : TS := fun D σ H => te σ H fun y H1 => to σ H1 fun x H2 => ∃ a C : Addr, x = .ref a ∧ OxB K C b ∧ PySem.W.findIn K (.ref C) f = some none ∧
  ((H2 a = some (exo a C none) ∧ ∀ dx, H2 dx = none → dx ≠ a → D.nx σ (upd (upd H2 dx (exd dx [(f, y)])) a (exo a C (some dx)))) ∨
    ∃ (dx : Addr) (fs : List (Str × V)), H2 a = some (exo a C (some dx)) ∧ H2 dx = some (exd dx fs) ∧ fs.length ≤ 900 ∧ D.nx σ (upd H2 dx (exd dx ((f, y) :: fs))))
theorem ps_oxs {X : Cx} {b : Bs} {o e : Expr} {to te : TE} {f : Str} {p' pos : Pos} (ho : PE X o to) (he : PE X e te) (hs : swapsWith e (some (.Attribute o f p')) pos.line X.env = pure false := by rfl) : PS X (.Assign [.Attribute o f p'] e pos) (tOxs X.K b f to te) := by
  refine ⟨fun pins s σ H D I h => ?_⟩
  refine plainObj_wpAny_Assign_Attribute (thn (he.run pins s σ H _ I h) fun v s1 hh => ?_) hs
  obtain ⟨y, H1, I1, r1, q1⟩ := hh
  refine thn (ho.run pins s1 σ H1 _ I1 q1) fun u s2 hh => ?_
  obtain ⟨x, H2, I2, r2, a, C, ex, T, hno, q⟩ := hh
  subst ex
  obtain rfl : u = Value.ref a := r2
  rcases q with ⟨ea, q⟩ | ⟨dx, fs, ea, ed, hl, q⟩
  · exact sto_first T I2 ea hno r1 fun dx s' n ne J => ⟨σ, _, J, q dx n ne⟩
  · exact sto_next T I2 ea ed hl hno r1 fun s' J => ⟨σ, _, J, q⟩
theorem pe_xinit {X : Cx} {b : Bs} (hb : BasF b) {np apos pos : Pos} {e : Expr} {es : List Expr} {t : TA} {pl : Sem Bool} (hg : Gl X b.B) (hm : X.mg b.B = none) (ha : PA X (e :: es) t)
    (he : starEach (e :: es) X.env = (false, eval e X.env) :: starEach es X.env := by rfl) (hpl : (backTo pos (starEach es X.env)).any (·.1) = false := by rfl)
    (ht : eval (.Call (.Attribute (.Name b.B np) "__init__" apos) (e :: es) [] pos) X.env = (do
      let w ← eval (.Name b.B np) X.env
      standAt apos.atName
      let (f, first) ← holding [w] (getMethod w "__init__" pl)
      callWith pos f first (backTo pos (starEach (e :: es) X.env)) (backToKw pos (keywordEach [] X.env))) := by rfl) :
    PE X (.Call (.Attribute (.Name b.B np) "__init__" apos) (e :: es) [] pos) (tCB (rXi X.K b) t) := NwS.pe_tyat call_xi hb.t hg hm hb.v ha hb.n hb.d he hpl ht
/-- C(e, ..) -/
theorem pmk_oxb {X : Cx} {CX : CXT} {b : Bs} {x : Str} {C fI : Addr} {k : Nat} {fd : FuncData} {ps : List Str} {sp : Sp} {ds : List Value} {dvs : List V} {ta : TA} {e : Expr} {es : List Expr} {p pos : Pos} (T : OxB X.K C b) (iC : PySem.W.findIn X.K (.ref C) "__init__" = some (some (.ref fI))) (tI : PySem.W.typeIn X.K (.ref fI) = some (.type "function"))
    (F1 : FnOk X.prog X.w X.K X.mg X.base CX k fI fd ps sp) (hr : Room (k + 1) X.A) (hb : Binds X.K fd ps ds) (hd : Vals dvs ds) (hx : Passes CX X (fun _ _ _ => False)) (hg : Gl X x) (hm : X.mg x = some (.ref C)) (ha : PA X (e :: es) ta)
    (hdb : (x == ("__debug__" : Str)) = false := by decide) (he : starEach (e :: es) X.env = (false, eval e X.env) :: starEach es X.env := by rfl) (hpl : (backTo pos (starEach es X.env)).any (·.1) = false := by rfl) :
    PMk X (.Call (.Name x p) (e :: es) [] pos) (tMkO C sp dvs ta) := by
  intro pins s σ H Q I h
  refine wpAny_Call_Name_kw (ld_glob I hg hm ?_ hdb)
  refine PySem.W.callWith_K (h₀ := X.base) I.ok.mod.kin T.kC (thn (ha.run pos pins s σ H _ I h) fun us s1 hh => ?_) he hpl
  obtain ⟨vs, H1, I1, r1, hz, q1⟩ := hh
  refine ⟨I1.kIn, ?_⟩
  show wpAny _ _ (call (.ref C) us) _ _ _
  obtain ⟨_, _, _, _, _, _, _, _, _, _, _, _, _, _, _, _, hC, hT⟩ := PySem.W.excInit_of I1.kIn T.q
  obtain ⟨hp, g, dr, tk, os⟩ := s1
  have up : hp.objs.size ≤ hp.objs.size + 1 := Nat.le_succ _
  have hq := q1 (hp.objs.size + 1) (I1.hok.fresh up)
  have kk : ∀ c o, hp.get? c = some o → ((hp.push (PySem.W.kdv_tup us)).push (PySem.HandSPX.excO C hp.objs.size)).get? c = some o := fun c o z => Heap.get?_push_of_some _ (Heap.get?_push_of_some _ z)
  have new : ((hp.push (PySem.W.kdv_tup us)).push (PySem.HandSPX.excO C hp.objs.size)).get? (hp.objs.size + 1) = some (PySem.HandSPX.excO C hp.objs.size) := by heap_get
  have I2 := I1.laid (t' := tk) (a := hp.objs.size + 1) (o := exo (hp.objs.size + 1) C none) kk up (exo_ok new)
  have r2 : Vals (V.ref (hp.objs.size + 1) :: (vs ++ dvs)) (Value.ref (hp.objs.size + 1) :: (us ++ ds)) := .cons rfl (r1.append hd)
  have many : (Value.ref (hp.objs.size + 1) :: us ++ ds).length = ps.length := (r2.length.symm.trans (F1.len _ _ _ _ hq))
  have few : us.length ≤ sizeLine := by
    rw [← Paired.length r1, sizeLine_eq]
    omega
  have run := F1.run (X.A.under (.builtin "type.__call__" ⟨.ref C :: us, []⟩)) X.stack _ _ ⟨Value.ref (hp.objs.size + 1) :: us, []⟩ (Value.ref (hp.objs.size + 1) :: (us ++ ds)) _ _ (fun _ _ _ => False) (hr.make C us []) (I2.env0.make C us []) (hb _ (Value.ref (hp.objs.size + 1) :: us) I2.kIn many) r2 hq
  refine wpAny_call (PySem.HandSPX.call_own T.bf.f hT hC (PySem.W.looks_findIn I1.kIn iC) (fun self => PySem.W.bind_fn I1.kIn self tI) few (codeAny_mono run fun r s' z => ?_))
  cases r with
  | error er => exact hx pins σ _ _ er s' I2 z
  | ok fl =>
    cases fl with
    | ret u =>
      obtain ⟨v, H2, os2, bare2, un2, hok2, rv, ev, d, fs, ea, ed, hd1, q2⟩ := z
      subst ev
      obtain ⟨h2, g2, d2, t2, os'⟩ := s'
      exact ⟨rv, mk_end (raises_own T.exC T.tyC) I1 up kk un2 hok2 os2 bare2 ea ed hd1 q2⟩
    | _ => exact False.elim z
/-- what such an __init__ promises; fr: the fields' names, last stored first -/
def spX (K : PySem.W.Frag) (C : Addr) (fr : List Str) : Sp := fun vs H Q _ => ∃ (a : Addr) (xs : List V), vs = .ref a :: xs ∧ xs.length = fr.length ∧ H a = some (exo a C none) ∧
  ∀ dx H', H dx = none → dx ≠ a → H' a = some (exo a C (some dx)) → H' dx = some (exd dx (fr.zip xs.reverse)) → (∀ c, c ≠ a → c ≠ dx → H' c = H c) → Q .non H'
theorem RpL.rev {ω : Wd} : ∀ {vs : List V} {ds : List Dt}, RpL ω vs ds → RpL ω vs.reverse ds.reverse
  | _, _, .nil => .nil
  | _, _, .cons a r => by
    rw [List.reverse_cons, List.reverse_cons]
    exact r.rev.app (.cons a .nil)
def sRaiseX (n : Nat) (fr : List Str) (ma : MA) (md : List Dt) : MS := fun δ μ => (ma δ μ).thn δ fun es μ1 => if (es ++ md).length = fr.length ∧ fr.length ≤ 900 then .ex n fr (es ++ md).reverse δ μ1 else .no
section
variable {Γ : Gm} {W : WX} {K : PySem.W.Frag}
theorem sv_raiseX {n : Nat} {fr : List Str} {ta : TA} {ma : MA} {dvs : List V} {md : List Dt} (hd : ∀ ω : Wd, ω.Γ = Γ → RpL ω dvs md) (ha : AV Γ W ta ma) :
    SV Γ W (fun _ σ H => tMkO (Γ.c n) (spX K (Γ.c n) fr) dvs ta σ H fun cls d H' => W cls d σ H') (sRaiseX n fr ma md) := fun D σ H ⟨ω, δ, μ, hg, he, hw, h⟩ =>
  ha σ H _ ⟨ω, δ, μ, hg, he, hw, GoE.splitS (f := fun es μ1 => if (es ++ md).length = fr.length ∧ fr.length ≤ 900 then .ex n fr (es ++ md).reverse δ μ1 else .no) he h fun es μ1 vs ω1 H1 l1 w1 r1 h1 => by
    split at h1
    · rename_i hl
      have hg1 := l1.g.trans hg
      have r2 := r1.app (hd ω1 hg1)
      have hvl := r2.len
      refine ⟨by have := hl.1; simp only [List.length_append] at this hvl; omega, fun a na => ⟨a, vs ++ dvs, rfl, by rw [hvl]; exact hl.1, upd_same, fun dx H' ndx hdx ea ed eo => ⟨rfl, dx, _, ea, ed, ?_, ?_⟩⟩⟩
      · rw [upd_ne hdx] at ndx
        exact ndx
      · rw [upd_ne hdx] at ndx
        have e : upd (del H' a) dx (.xd (fr.zip (vs ++ dvs).reverse)) = upd H1 dx (.xd (fr.zip (vs ++ dvs).reverse)) := funext fun b => by
          by_cases hb : b = dx
          · rw [hb, upd_same, upd_same]
          · rw [upd_ne hb, upd_ne hb]
            by_cases hba : b = a
            · rw [hba, del_same, na]
            · rw [del_ne hba, eo b hba hb, upd_ne hba]
        rw [e]
        obtain ⟨l2, w2⟩ := w1.newB (u := .xd (fr.zip (vs ++ dvs).reverse)) ndx
        have q := h1 (some dx) σ _ _ l2 w2 ((he.mono l1).mono l2) (.inr ⟨dx, (vs ++ dvs).reverse, rfl, upd_same, (r2.mono l2).rev⟩)
        rw [hg1] at q
        exact q
    · exact h1.elim⟩
end
/-! ### the __init__ itself -/
def tFs (K : PySem.W.Frag) (b : Bs) : List (Str × Nat) → TS
  | [] => tNext
  | p :: l => tSeq (tOxs K b p.1 (tVar 0) (tVar p.2)) (tFs K b l)
/-- the fields, as they come to stand -/
def accF : List (Str × Nat) → L2.St → List (Str × V) → Option (List (Str × V))
  | [], _, fs => some fs
  | p :: l, σ, fs => match σ[p.2]? with
    | some (some y) => accF l σ ((p.1, y) :: fs)
    | _ => none
theorem tFs_next {K : PySem.W.Frag} {b : Bs} {C a dx : Addr} {D : Ends} {σ : L2.St} (T : OxB K C b) (h0 : σ[0]? = some (some (.ref a))) (hdx : dx ≠ a) : ∀ (l : List (Str × Nat)) (fs gs : List (Str × V)) (H : Hp), (∀ p ∈ l, PySem.W.findIn K (.ref C) p.1 = some none) → H a = some (exo a C (some dx)) → H dx = some (exd dx fs) → fs.length + l.length ≤ 900 → accF l σ fs = some gs →
    (∀ H', H' a = some (exo a C (some dx)) → H' dx = some (exd dx gs) → (∀ c, c ≠ a → c ≠ dx → H' c = H c) → D.nx σ H') → tFs K b l D σ H
  | [], fs, gs, H, _, ha, hd, _, hg, k => by
    cases hg
    exact k H ha hd fun _ _ _ => rfl
  | p :: l, fs, gs, H, hno, ha, hd, hl, hg, k => by
    unfold accF at hg
    split at hg
    · rename_i y hy
      have hl2 : fs.length ≤ 900 := Nat.le_trans (Nat.le_add_right _ _) hl
      refine ⟨y, hy, .ref a, h0, a, C, rfl, T, hno p List.mem_cons_self, .inr ⟨dx, fs, ha, hd, hl2, ?_⟩⟩
      refine tFs_next T h0 hdx l _ gs _ (fun q hq => hno q (List.mem_cons_of_mem _ hq)) ((upd_ne (Ne.symm hdx)).trans ha) upd_same (by simp only [List.length_cons] at hl ⊢; omega) hg fun H' e1 e2 e3 => k H' e1 e2 fun b b1 b2 => (e3 b b1 b2).trans (upd_ne b2)
    · cases hg
theorem tFs_all {K : PySem.W.Frag} {b : Bs} {C a : Addr} {D : Ends} {σ : L2.St} {H : Hp} {l : List (Str × Nat)} {gs : List (Str × V)} {ta : TA} {ws : List V} (T : OxB K C b) (h0 : σ[0]? = some (some (.ref a))) (hne : l ≠ []) (hno : ∀ p ∈ l, PySem.W.findIn K (.ref C) p.1 = some none) (hl : l.length ≤ 900) (ha : H a = some (exo a C none))
    (hta : ∀ Q, Q (.ref a :: ws) H → ta σ H Q) (hw : ws.length ≤ 1000) (hg : accF l σ [] = some gs)
    (k : ∀ dx H', H dx = none → dx ≠ a → H' a = some (exo a C (some dx)) → H' dx = some (exd dx gs) → (∀ c, c ≠ a → c ≠ dx → H' c = H c) → D.nx σ H') : tSeq (tDrop (tCB (rXi K b) ta)) (tFs K b l) D σ H := by
  refine hta _ ⟨a, C, ws, rfl, hw, T, ha, ?_⟩
  cases l with
  | nil => exact absurd rfl hne
  | cons p l =>
    unfold accF at hg
    split at hg
    · rename_i y hy
      refine ⟨y, hy, .ref a, h0, a, C, rfl, T, hno p List.mem_cons_self, .inl ⟨ha, fun dx ndx hdx => ?_⟩⟩
      refine tFs_next T h0 hdx l _ gs _ (fun q hq => hno q (List.mem_cons_of_mem _ hq)) upd_same ((upd_ne hdx).trans upd_same) (by simp only [List.length_cons, List.length_nil] at hl ⊢; omega) hg fun H' e1 e2 e3 => k dx H' ndx hdx e1 e2 fun b b1 b2 => (e3 b b1 b2).trans ((upd_ne b1).trans (upd_ne b2))
    · cases hg
/-- a def that is such an __init__ -/
theorem okX {P : Program} {w : World} {K : PySem.W.Frag} {mg : Str → Option Value} {base : Heap} {b : Bs} {C : Addr} {qual : Str} {st : Stmt} {f : Addr} {fd : FuncData} {N ps fr : List Str} {k : Nat} {kws : List (Str × V)} {l : List (Str × Nat)} {ta : TA} (F : FunD K "__init__" qual (defArgs st) (defBody st) (defScope st) [] kws f fd) (S : FnScope N ps (defScope st))
    (T : OxB K C b) (hps : ps.length = fr.length + 1) (hne : l ≠ []) (hl : l.length ≤ 900) (hno : ∀ p ∈ l, PySem.W.findIn K (.ref C) p.1 = some none) {w0 : V} (hta : ∀ a vs H Q, Q [.ref a, w0] H → ta (start N (.ref a :: vs)) H Q)
    (hacc : ∀ a xs, xs.length = fr.length → accF l (start N (.ref a :: xs)) [] = some (fr.zip xs.reverse))
    (hbody : ∀ (cdv : Value) (A : Around) (outer : List PySem.Env) (s : Shared) (H : Hp) (E : XK), Room k (A.deeper (envOfC qual (defScope st) s.heap.objs.size f cdv)) →
      PSs (cxOf (L2.CX P w) P w K mg base N qual (defScope st) f cdv A outer s H E) (defBody st) (tSeq (tDrop (tCB (rXi K b) ta)) (tFs K b l))) :
    FnOk P w K mg base (L2.CX P w) (k + 1) f fd ps (spX K C fr) :=
  F.ok S (fun vs H Q E ⟨a, xs, e, hx, _⟩ => by rw [e, List.length_cons, hx, hps]) fun cdv A outer s H vs Q E hr ⟨a, xs, e, hx, ha, h⟩ => by
    subst e
    exact ⟨_, hbody cdv A outer s H E hr, tFs_all T rfl hne hno hl ha (fun Q q => hta a xs H Q q) (show 1 ≤ 1000 by decide) (hacc a xs hx) h⟩
/-- a class over ValueError with such an __init__ -/
structure DefX (P : Program) (w : World) (K : PySem.W.Frag) (mg : Str → Option Value) (base : Heap) (C : Addr) (qual : Str) (st : Stmt) (k : Nat) (ps : List Str) (kws : List (Str × V)) (fr : List Str) (b : Bs) : Prop where
  ex : ∃ g fd, FunD K "__init__" qual (defArgs st) (defBody st) (defScope st) [] kws g fd ∧ FnOk P w K mg base (L2.CX P w) k g fd ps (spX K C fr) ∧ OxB K C b ∧ PySem.W.findIn K (.ref C) "__init__" = some (some (.ref g)) ∧ PySem.W.typeIn K (.ref g) = some (.type "function")
theorem pmk_dX {X : Cx} {W : WX} {C : Addr} {x qual : Str} {st : Stmt} {k : Nat} {ps : List Str} {kd : List (Str × V)} {fr : List Str} {b : Bs} {ta : TA} {e : Expr} {es : List Expr} {p pos : Pos} (D : DefX X.prog X.w X.K X.mg X.base C qual st k ps kd fr b) (n : Nat) (hk : kd ≠ []) (hn : n + kd.length = ps.length)
    (h : ∀ (D : Addr) (doc pm : Value) (an : Option Addr) (cdv ct : Value) (us ks : List Value), us.length = n → ks.length = kd.length →
      KwChain D ((kd.map (·.1)).zip ks) (bindArgs (PySem.W.fnOf "__init__" qual (defArgs st) (defBody st) (defScope st) .none (.ref D) doc pm an cdv ct) ⟨us, []⟩) (ps.zip (us ++ ks)))
    (hr : Room (k + 1) X.A) (tk : Takes X W) (hg : Gl X x) (hm : X.mg x = some (.ref C)) (ha : PA X (e :: es) ta)
    (hdb : (x == ("__debug__" : Str)) = false := by decide) (he : starEach (e :: es) X.env = (false, eval e X.env) :: starEach es X.env := by rfl) (hpl : (backTo pos (starEach es X.env)).any (·.1) = false := by rfl) :
    PMk X (.Call (.Name x p) (e :: es) [] pos) (tMkO C (spX X.K C fr) (kd.map (·.2)) ta) := by
  obtain ⟨g, fd, F, G, T, iC, tI⟩ := D.ex
  obtain ⟨ds, rd, hb⟩ := F.binds0 n hk hn h
  exact pmk_oxb T iC tI G hr hb rd (passes_call tk fun _ _ _ _ z => z.elim) hg hm ha hdb he hpl
end DM

set_option linter.all false
set_option maxRecDepth 100000
set_option maxHeartbeats 4000000
/-! DMF: len(o) by an own __len__. -/
namespace DM
open PySem PySem.Spec PyProof.Rows L2
open Classical
def rLenM (Γ : Gm) (tb : Nat → Option (List Dt → Mem → R Dt)) : List V → Hp → VK → Prop := fun xs H Q => ∃ (a : Addr) (cn : Nat) (f : List Dt → Mem → R Dt) (dx : Addr) (fs : List (Str × V)), xs = [.ref a] ∧ H a = some (.ins (Γ.c cn) dx fs) ∧ tb cn = some f ∧
  FM Γ f [.ref a] H (fun v H2 => ∃ k : Int, v = .int k ∧ 0 ≤ k ∧ k ≤ 1000000000 ∧ Q (.int k) H2) fun _ _ _ => False
def cLenM (tb : Nat → Option (List Dt → Mem → R Dt)) (ds : List Dt) (μ : Mem) : R Dt := match ds with
  | [.ptr i] => (match μ[i]? with
    | some (.ins cn _) => (match tb cn with
      | some f => (match f [.ptr i] μ with
        | .ok (.int k) μ1 => if 0 ≤ k ∧ k ≤ 1000000000 then .ok (.int k) μ1 else .no
        | _ => .no)
      | none => .no)
    | _ => .no)
  | _ => .no
theorem rc_lenM {Γ : Gm} {tb : Nat → Option (List Dt → Mem → R Dt)} : RC Γ (rLenM Γ tb) (cLenM tb) := fun W ω σ μ H xs ds Q hg w r h => by
  unfold cLenM at h
  split at h
  · rename_i i
    split at h
    · rename_i cn fs e
      split at h
      · rename_i f ef
        split at h
        · rename_i k μ1 er
          split at h
          · rename_i hk
            obtain ⟨x, rfl, rx⟩ := r.one
            cases rx with
            | ptr hb =>
              obtain ⟨_, dx, vs, hx, rk⟩ := w.at_ _ _ _ hb e
              rw [hg] at hx
              refine ⟨_, cn, f, dx, vs, rfl, hx, ef, ω, [.ptr i], μ, hg, .cons (.ptr hb) .nil, w, ?_⟩
              rw [er]
              intro v ω' H' l' w' r'
              cases r' with
              | int => exact ⟨k, rfl, hk.1, hk.2, h _ ω' H' l' w' (.int k)⟩
          · exact h.elim
        · exact h.elim
      · exact h.elim
    · exact h.elim
  · exact h.elim
theorem own_special {M : Model} {A : Around} {E : Value → Shared → Prop} {s : Shared} {K : PySem.W.Frag} {self : Value} {nm : Str} {g : Addr} {args : List Value} {Q : Option Value → Shared → Prop} (X : K.In s.heap) (sp : PySem.W.Looks M s.heap (specialOf self nm) (some (.ref g))) (hf : PySem.W.typeIn K (.ref g) = some (.type "function"))
    (hc : wpAny M A (call (.ref g) (self :: args)) (fun v => Q (some v)) E s) : wpAny M A (callSpecial? self nm args) Q E s := by
  have lb := PySem.W.bind_fn (M := M) X self hf
  simp only [callSpecial?]
  refine wpAny_bind (sp.here ?_)
  refine wpAny_holding (wpAny_bind (lb.here (wpAny_bind ?_)))
  exact wpAny_mono hc (fun v s' z => wpAny_pure z) fun _ _ z => z
theorem call_lenM {X : Cx} {K : PySem.W.Frag} {Γ : Gm} {tb : Nat → Option (List Dt → Mem → R Dt)} {k : Nat} (hK : X.K = K) (hT : ∀ cn f, tb cn = some f → MethB X.prog X.w X.K X.mg X.base Γ "__len__" cn k 0 [] (fun vs zs => pm [0] (vs ++ (([] : List (Str × V)).map (·.2)) ++ zs)) f) (hr : Room (k + 1) X.A) : CallR X (.builtin "len") (rLenM Γ tb) := by
  intro pins s σ H xs us Q I r hx
  obtain ⟨a, cn, f, dx, fs, rfl, ea, et, hf⟩ := hx
  obtain ⟨u, rfl, ru⟩ := vals1 r
  obtain rfl : u = Value.ref a := ru
  obtain ⟨g, fd, ps, gg, c, hm, F, hb⟩ := (hT cn f et).ex
  have hfn : PySem.W.typeIn X.K (.ref g) = some (.type "function") := beq_iff_eq.mp hm.fn
  obtain ⟨mA, J, _⟩ := ins_get I.hok ea
  obtain ⟨od, J, _⟩ := J.look
  have sp : PySem.W.Looks (model X.prog X.w) s.heap (specialOf (.ref a) "__len__") (some (.ref g)) := J.type.andThen (PySem.W.looks_findIn I.kIn hm.at_)
  have e0 : Env0 X.prog X.w X.K X.mg X.base X.A.in1 X.stack s H := by
    have e := I.env0
    exact ⟨e.frames, e.mod, e.bs, e.bsz, e.funs, e.frf, e.hok, e.bare⟩
  have hl : ([Value.ref a] : List Value).length = 0 + 1 := rfl
  have rr : Vals [V.ref a] [Value.ref a] := .cons rfl .nil
  have run := F.run X.A.in1 X.stack s H ⟨[Value.ref a], []⟩ (gg [Value.ref a] []) _ _ _ hr.in1 e0 (hb.to s _ [] I.kIn hl rfl) (hb.rel rr .nil) hf
  refine PySem.Calls.call_function_entry kind_len plain_len entry_len (args_len1 _) ?_
  unfold Builtin.«len»
  refine wpAny_bind (m := oneArg "len" _) (wpAny_pure ?_)
  refine wpAny_bind (m := callSpecial? (.ref a) (PySem.Str.ofString "__len__")) (own_special I.kIn sp hfn ?_)
  refine wpAny_call (codeAny_mono run fun res s' z => ?_)
  cases res with
  | error e =>
    obtain ⟨_, _, _, _, _, _, _, _, _, _, _, _, hE⟩ := z
    exact hE.elim
  | ok fl => cases fl with
    | ret u =>
      obtain ⟨v, H', I', rv, k, ev, k0, k1, q⟩ := I.after z
      subst ev
      obtain ⟨t, rfl⟩ : ∃ t, u = Value.int k t := rv
      refine wpAny_bind (wpAny_holding (wpAny_pure ?_))
      refine wpAny_bind (wpAny_letGo ?_)
      show wpAny _ _ (if k < 0 then _ else _) _ _ _
      rw [if_neg (by omega)]
      show wpAny _ _ (if k ≥ 2 ^ 63 then _ else _) _ _ _
      rw [if_neg (by omega)]
      refine wpAny_bind (wpAny_mkInt (wpAny_pure ⟨_, rfl, ?_⟩))
      exact ⟨.int k, H', I'.tok _, ⟨_, rfl⟩, q⟩
    | _ => exact False.elim z
/-! ### len of a dict -/
def rLenD : List V → Hp → VK → Prop := fun xs H Q => ∃ a kvs, xs = [V.ref a] ∧ H a = some (.dK kvs) ∧ Q (.int kvs.length) H
theorem k_lenD {X : Cx} : CallR X (.builtin "len") rLenD := call_lenD
def cLenD (ds : List Dt) (μ : Mem) : R Dt := match ds with
  | [d] => (match asK μ d with
    | some kvs => .ok (.int kvs.length) μ
    | none => .no)
  | _ => .no
theorem rc_lenD {Γ : Gm} : RC Γ rLenD cLenD := fun W ω σ μ H xs ds Q hg w r h => by
  unfold cLenD at h
  split at h
  · rename_i d
    split at h
    · rename_i kvs e
      obtain ⟨x, rfl, rx⟩ := r.one
      obtain ⟨i, a, vs, rfl, rfl, _, _, hx, rk⟩ := asK_ok w rx e
      exact ⟨a, vs, rfl, hx, by rw [rk.len]; exact h.ok w (.int _)⟩
    · exact h.elim
  · exact h.elim
end DM

set_option linter.all false
set_option maxRecDepth 100000
set_option maxHeartbeats 4000000
/-! DMG: dicts by tuples of texts; dicts that are walked; in a tuple of anything. -/
namespace DM
open PySem PySem.Spec PyProof.Rows L2
open Classical
/-! ### what a world forgets -/
structure NoLst (u : HO) : Prop where
  l : ∀ xs, u ≠ .lst xs
  t : ∀ xs, u ≠ .tup xs
  f : ∀ o xs, u ≠ .frz o (.lst xs)
  e : ∀ f, u ≠ .ext f
  x : ∀ fs, u ≠ .xd fs
theorem ne_at {B : Hp} {a c : Addr} {u v : HO} (hB : B a = some u) (h : B c = some v) (n : u ≠ v) : c ≠ a := fun z => by
  rw [z, hB] at h
  exact n (Option.some.inj h)
section
variable {ω : Wd} {a : Addr} {u : HO}
mutual
theorem Rp.unl (hB : ω.B a = some u) (n : NoLst u) : ∀ {v : V} {d : Dt}, Rp ω v d → Rp { ω with B := del ω.B a } v d
  | _, _, .non => .non
  | _, _, .bl b => .bl b
  | _, _, .int i => .int i
  | _, _, .str x => .str x
  | _, _, .lst h r => .lst ((del_ne (ne_at hB h (n.l _))).trans h) (RpL.unl hB n r)
  | _, _, .tup h r => .tup ((del_ne (ne_at hB h (n.t _))).trans h) (RpL.unl hB n r)
  | _, _, .scr h r => .scr (h.elim (fun ⟨o, z⟩ => .inl ⟨o, z.elim (fun z => .inl ((del_ne (ne_at hB z (n.l _))).trans z)) fun z => .inr ((del_ne (ne_at hB z (n.f _ _))).trans z)⟩) .inr) (RpL.unl hB n r)
  | _, _, .ptr h => .ptr h
  | _, _, .ktp h r => .ktp h (RpL.unl hB n r)
  | _, _, .ty m => .ty m
  | _, _, .cls m => .cls m
  | _, _, .exn h => .exn ((del_ne (ne_at hB h (n.e _))).trans h)
  | _, _, .exd h1 h2 r => .exd ((del_ne (ne_at hB h1 (n.e _))).trans h1) ((del_ne (ne_at hB h2 (n.x _))).trans h2) (RpL.unl hB n r)
theorem RpL.unl (hB : ω.B a = some u) (n : NoLst u) : ∀ {vs : List V} {ds : List Dt}, RpL ω vs ds → RpL { ω with B := del ω.B a } vs ds
  | _, _, .nil => .nil
  | _, _, .cons h r => .cons (Rp.unl hB n h) (RpL.unl hB n r)
end
theorem RpK.unl {κ : Type} (hB : ω.B a = some u) (n : NoLst u) {vs : List (κ × V)} {ds : List (κ × Dt)} (r : RpK ω vs ds) : RpK { ω with B := del ω.B a } vs ds := by
  induction r with
  | nil => exact .nil
  | cons h _ ih => exact .cons (h.unl hB n) ih
theorem MOR.unl {H H' : Hp} {c : Addr} {o : MO} (h : MOR ω H c o) (hB : ω.B a = some u) (n : NoLst u) (hc : c ≠ a) (e : H' c = H c) : MOR { ω with B := del ω.B a } H' c o := by
  cases o with
  | lst ds => obtain ⟨z, xs, q, r⟩ := h; exact ⟨(del_ne hc).trans z, xs, e.trans q, r.unl hB n⟩
  | dK ds => obtain ⟨z, xs, q, r⟩ := h; exact ⟨(del_ne hc).trans z, xs, e.trans q, r.unl hB n⟩
  | dT ds => obtain ⟨z, xs, q, r⟩ := h; exact ⟨(del_ne hc).trans z, xs, e.trans q, r.unl hB n⟩
  | ins m ds => obtain ⟨z, dx, xs, q, r⟩ := h; exact ⟨(del_ne hc).trans z, dx, xs, e.trans q, r.unl hB n⟩
  | gone => obtain ⟨x, q⟩ := h; exact ⟨x, e.trans q⟩
  | lk ds => obtain ⟨o, vs, b1, q, r⟩ := h; exact ⟨o, vs, (del_ne hc).trans b1, e.trans q, r.unl hB n⟩
  | lkT ds => obtain ⟨o, vs, b1, q, r⟩ := h; exact ⟨o, vs, (del_ne hc).trans b1, e.trans q, r.unl hB n⟩
end
/-- a tuple that stands somewhere is known from then on -/
theorem WR.knowT {ω : Wd} {μ : Mem} {H : Hp} {q : Addr} {xs : List V} (w : WR ω μ H) (hq : H q = some (.tup xs)) : ∃ ω', Le ω ω' ∧ WR ω' μ H ∧ ω'.B q = some (.tup xs) := by
  cases hb : ω.B q with
  | some o =>
    have := w.x q o hb
    rw [hq] at this
    cases this
    exact ⟨ω, Le.refl _, w, hb⟩
  | none =>
    have hF : ω.F q = none := by
      cases e : ω.F q with
      | none => rfl
      | some o =>
        obtain ⟨_, ys, rfl⟩ := w.fb q o e
        have := w.fr q _ e
        rw [hq] at this
        cases this
    have l : Le ω { ω with B := upd ω.B q (.tup xs) } := ⟨rfl, fun _ _ h => h, same_upd hb, rfl⟩
    refine ⟨_, l, ⟨fun c u z => ?_, w.len, w.inj, fun j c o h1 e1 => ?_, w.fr, w.fa, fun c o e1 => ⟨(upd_ne (ne_of_none e1 hF)).trans (w.fb c o e1).1, (w.fb c o e1).2⟩⟩, upd_same⟩
    · by_cases hc : c = q
      · subst hc
        have z : upd ω.B c (.tup xs) c = some u := z
        rw [upd_same] at z
        cases z
        exact hq
      · have z : upd ω.B q (.tup xs) c = some u := z
        rw [upd_ne hc] at z
        exact w.x c u z
    · have m := w.at_ j c o h1 e1
      by_cases hc : c = q
      · subst hc
        cases o with
        | lst ds => obtain ⟨_, ys, z, _⟩ := m; rw [hq] at z; cases z
        | dK ds => obtain ⟨_, ys, z, _⟩ := m; rw [hq] at z; cases z
        | dT ds => obtain ⟨_, ys, z, _⟩ := m; rw [hq] at z; cases z
        | ins n ds => obtain ⟨_, _, ys, z, _⟩ := m; rw [hq] at z; cases z
        | gone => exact ⟨_, hq⟩
        | lk ds => obtain ⟨_, _, _, z, _⟩ := m; rw [hq] at z; cases z
        | lkT ds => obtain ⟨_, _, _, z, _⟩ := m; rw [hq] at z; cases z
      · exact m.move l rfl fun z => (upd_ne hc).trans z

/-! ### a dict that is locked while it is walked (T) -/
theorem nolstT {od : Obj} {vs : List (List Key × V)} : NoLst (.frz od (.dT vs)) := ⟨fun xs z => (by cases z), fun xs z => (by cases z), fun o xs z => (by cases z), fun f z => (by cases z), fun fs z => (by cases z)⟩
theorem WR.lockT {ω : Wd} {μ : Mem} {H : Hp} {i : Nat} {a : Addr} {kvs : List (List Key × Dt)} (w : WR ω μ H) (h : ω.α[i]? = some a) (e : μ[i]? = some (.dT kvs)) : ∃ vs, H a = some (.dT vs) ∧ ω.B a = none ∧ ∀ od : Obj, Le ω { ω with B := upd ω.B a (.frz od (.dT vs)) } ∧ WR { ω with B := upd ω.B a (.frz od (.dT vs)) } (μ.set i (.lkT kvs)) (upd H a (.frz od (.dT vs))) := by
  obtain ⟨hb, vs, hx, r⟩ := w.at_ i a _ h e
  refine ⟨vs, hx, hb, fun od => ?_⟩
  have l : Le ω { ω with B := upd ω.B a (.frz od (.dT vs)) } := ⟨rfl, fun _ _ h => h, same_upd hb, rfl⟩
  have hi : i < μ.length := (List.getElem?_eq_some_iff.mp e).1
  refine ⟨l, ⟨same_upd2 w.x, by rw [List.length_set]; exact w.len, w.inj, fun j c o h1 e1 => ?_, same_hid w.fr (w.fa i a h), w.fa, fun c o e1 => ⟨(upd_ne (ne_of_none e1 (w.fa i a h))).trans (w.fb c o e1).1, (w.fb c o e1).2⟩⟩⟩
  have h1 : ω.α[j]? = some c := h1
  by_cases hj : j = i
  · subst hj
    rw [h] at h1
    cases h1
    rw [List.getElem?_set_self hi] at e1
    cases e1
    exact ⟨od, vs, upd_same, upd_same, r.mono l⟩
  · rw [List.getElem?_set_ne (Ne.symm hj)] at e1
    have hne : c ≠ a := fun z => hj (w.inj j i c h1 (by rw [z]; exact h))
    exact (w.at_ j c o h1 e1).move l (upd_ne hne) fun z => (upd_ne hne).trans z
theorem WR.freeT {ω : Wd} {μ : Mem} {H : Hp} {i : Nat} {a : Addr} {od : Obj} {vs : List (List Key × V)} {kvs : List (List Key × Dt)} (w : WR ω μ H) (h : ω.α[i]? = some a) (hB : ω.B a = some (.frz od (.dT vs))) (e : μ[i]? = some (.lkT kvs)) :
    H a = some (.frz od (.dT vs)) ∧ WR { ω with B := del ω.B a } (μ.set i (.dT kvs)) (upd H a (.dT vs)) := by
  obtain ⟨o2, vs2, b2, hx, r⟩ := w.at_ i a _ h e
  rw [hB] at b2
  cases b2
  have hi : i < μ.length := (List.getElem?_eq_some_iff.mp e).1
  have nl := nolstT (od := od) (vs := vs)
  refine ⟨hx, ⟨fun c u q => ?_, by rw [List.length_set]; exact w.len, w.inj, fun j c o h1 e1 => ?_, fun c u q => ?_, w.fa, fun c o e1 => ?_⟩⟩
  · have q : del ω.B a c = some u := q
    by_cases hc : c = a
    · rw [hc, del_same] at q
      cases q
    · rw [del_ne hc] at q
      rw [upd_ne hc]
      exact w.x c u q
  · have h1 : ω.α[j]? = some c := h1
    by_cases hj : j = i
    · subst hj
      rw [h] at h1
      cases h1
      rw [List.getElem?_set_self hi] at e1
      cases e1
      exact ⟨del_same, vs, upd_same, r.unl hB nl⟩
    · rw [List.getElem?_set_ne (Ne.symm hj)] at e1
      have hne : c ≠ a := fun z => hj (w.inj j i c h1 (by rw [z]; exact h))
      exact (w.at_ j c o h1 e1).unl hB nl hne (upd_ne hne)
  · have q : ω.F c = some u := q
    have hc : c ≠ a := ne_of_none q (w.fa i a h)
    rw [upd_ne hc]
    exact w.fr c u q
  · have e1 : ω.F c = some o := e1
    have hc : c ≠ a := ne_of_none e1 (w.fa i a h)
    exact ⟨(del_ne hc).trans (w.fb c o e1).1, (w.fb c o e1).2⟩
def mLockT (pick m : MX) : MX := fun δ μ => match pick δ μ with
  | .ok (.ptr i) _ => (match μ[i]? with
    | some (.dT kvs) => (match m δ (μ.set i (.lkT kvs)) with
      | .ok d μ2 => (match μ2[i]? with
        | some (.lkT kvs2) => .ok d (μ2.set i (.dT kvs2))
        | _ => .no)
      | _ => .no)
    | _ => .no)
  | _ => .no
theorem ev_lockT {Γ : Gm} {W : WX} {t : TE} {pick m : MX} (ht : EV Γ W t m) : EV Γ W (tLockE t) (mLockT pick m) := fun σ H Q ⟨ω, δ, μ, hg, he, hw, h⟩ => by
  unfold mLockT at h
  split at h
  · rename_i i μ0 ep
    split at h
    · rename_i kvs e
      have hi : i < ω.α.length := by rw [hw.len]; exact (List.getElem?_eq_some_iff.mp e).1
      have ha : ω.α[i]? = some ω.α[i] := List.getElem?_eq_getElem hi
      generalize ω.α[i] = a at ha
      obtain ⟨vs, hx, hb, k⟩ := hw.lockT ha e
      refine ⟨a, .dT vs, hx, trivial, fun od => ?_⟩
      obtain ⟨l1, w1⟩ := k od
      refine ht σ _ _ ⟨_, δ, _, l1.g.trans hg, he.mono l1, w1, ?_⟩
      cases em : m δ (μ.set i (.lkT kvs)) with
      | no => rw [em] at h; exact h.elim
      | ex n ns es μ2 => rw [em] at h; exact h.elim
      | ok d μ2 =>
        rw [em] at h
        dsimp only at h
        split at h
        · rename_i kvs2 e2
          intro v ω' H' l' w' r'
          have hB : ω'.B a = some (.frz od (.dT vs)) := l'.b _ _ upd_same
          obtain ⟨hx', w2⟩ := w'.freeT (l'.a _ _ ha) hB e2
          have nl := nolstT (od := od) (vs := vs)
          refine ⟨hx', h v { ω' with B := del ω'.B a } _ ⟨(l1.trans l').g, fun j c q => l'.a j c q, fun c u q => ?_, (l1.trans l').f⟩ w2 (r'.unl hB nl)⟩
          have hc : c ≠ a := ne_of_none q hb
          show del ω'.B a c = some u
          rw [del_ne hc]
          exact l'.b _ _ (by show upd ω.B a _ c = some u; rw [upd_ne hc]; exact q)
        · exact h.elim
    · exact h.elim
  · exact h.elim
def sLockT (pick : MX) (m : MS) : MS := fun δ μ => match pick δ μ with
  | .ok (.ptr i) _ => (match μ[i]? with
    | some (.dT kvs) => (match m δ (μ.set i (.lkT kvs)) with
      | .nx δ' μ2 => (match μ2[i]? with
        | some (.lkT kvs2) => .nx δ' (μ2.set i (.dT kvs2))
        | _ => .no)
      | .rt d μ2 => (match μ2[i]? with
        | some (.lkT kvs2) => .rt d (μ2.set i (.dT kvs2))
        | _ => .no)
      | .bk δ' μ2 => (match μ2[i]? with
        | some (.lkT kvs2) => .bk δ' (μ2.set i (.dT kvs2))
        | _ => .no)
      | .ct δ' μ2 => (match μ2[i]? with
        | some (.lkT kvs2) => .ct δ' (μ2.set i (.dT kvs2))
        | _ => .no)
      | .ex n ns es δ' μ2 => .ex n ns es δ' μ2
      | .no => .no)
    | _ => .no)
  | _ => .no
theorem sv_lockT {Γ : Gm} {W : WX} {t : TS} {pick : MX} {m : MS} (ht : SV Γ W t m) : SV Γ W (tLock t) (sLockT pick m) := fun D σ H ⟨ω, δ, μ, hg, he, hw, h⟩ => by
  unfold sLockT at h
  split at h
  · rename_i i μ0 ep
    split at h
    · rename_i kvs e
      have hi : i < ω.α.length := by rw [hw.len]; exact (List.getElem?_eq_some_iff.mp e).1
      have ha : ω.α[i]? = some ω.α[i] := List.getElem?_eq_getElem hi
      generalize ω.α[i] = a at ha
      obtain ⟨vs, hx, hb, k⟩ := hw.lockT ha e
      refine ⟨a, .dT vs, hx, trivial, fun od => ?_⟩
      obtain ⟨l1, w1⟩ := k od
      refine ht _ σ _ ⟨_, δ, _, l1.g.trans hg, he.mono l1, w1, ?_⟩
      have nl := nolstT (od := od) (vs := vs)
      have open_ : ∀ {ω' : Wd} {μ2 : Mem} {H' : Hp} {kvs2 : List (List Key × Dt)}, Le { ω with B := upd ω.B a (.frz od (.dT vs)) } ω' → WR ω' μ2 H' → μ2[i]? = some (.lkT kvs2) → H' a = some (.frz od (.dT vs)) ∧ ω'.B a = some (.frz od (.dT vs)) ∧ Le ω { ω' with B := del ω'.B a } ∧ WR { ω' with B := del ω'.B a } (μ2.set i (.dT kvs2)) (upd H' a (.dT vs)) := by
        intro ω' μ2 H' kvs2 l' w' e2
        have hB : ω'.B a = some (.frz od (.dT vs)) := l'.b _ _ upd_same
        obtain ⟨hx', w2⟩ := w'.freeT (l'.a _ _ ha) hB e2
        refine ⟨hx', hB, ⟨(l1.trans l').g, fun j c q => l'.a j c q, fun c u q => ?_, (l1.trans l').f⟩, w2⟩
        have hc : c ≠ a := ne_of_none q hb
        show del ω'.B a c = some u
        rw [del_ne hc]
        exact l'.b _ _ (by show upd ω.B a _ c = some u; rw [upd_ne hc]; exact q)
      have envU : ∀ {ω' : Wd} {σ' : L2.St} {δ' : Env}, ω'.B a = some (.frz od (.dT vs)) → EnvR ω' σ' δ' → EnvR { ω' with B := del ω'.B a } σ' δ' := fun hB r => ⟨r.len, fun i d e => let ⟨v, q, z⟩ := r.at_ i d e; ⟨v, q, z.unl hB nl⟩⟩
      cases em : m δ (μ.set i (.lkT kvs)) with
      | no => rw [em] at h; exact h.elim
      | ex n ns es δ' μ2 =>
        rw [em] at h
        exact fun dd σ' ω' H' l' w' e' x' => h dd σ' ω' H' (l1.trans l') w' e' x'
      | nx δ' μ2 =>
        rw [em] at h
        dsimp only at h
        split at h
        · rename_i kvs2 e2
          intro σ' ω' H' l' w' e'
          obtain ⟨h1, hB, l2, w2⟩ := open_ l' w' e2
          exact ⟨h1, h σ' _ _ l2 w2 (envU hB e')⟩
        · exact h.elim
      | bk δ' μ2 =>
        rw [em] at h
        dsimp only at h
        split at h
        · rename_i kvs2 e2
          intro σ' ω' H' l' w' e'
          obtain ⟨h1, hB, l2, w2⟩ := open_ l' w' e2
          exact ⟨h1, h σ' _ _ l2 w2 (envU hB e')⟩
        · exact h.elim
      | ct δ' μ2 =>
        rw [em] at h
        dsimp only at h
        split at h
        · rename_i kvs2 e2
          intro σ' ω' H' l' w' e'
          obtain ⟨h1, hB, l2, w2⟩ := open_ l' w' e2
          exact ⟨h1, h σ' _ _ l2 w2 (envU hB e')⟩
        · exact h.elim
      | rt d μ2 =>
        rw [em] at h
        dsimp only at h
        split at h
        · rename_i kvs2 e2
          intro v ω' H' l' w' r'
          obtain ⟨h1, hB, l2, w2⟩ := open_ l' w' e2
          exact ⟨h1, h v _ _ l2 w2 (r'.unl hB nl)⟩
        · exact h.elim
    · exact h.elim
  · exact h.elim

/-! ### a dict that is locked while it is walked (K) -/
theorem nolstK {od : Obj} {vs : List (Key × V)} : NoLst (.frz od (.dK vs)) := ⟨fun xs z => (by cases z), fun xs z => (by cases z), fun o xs z => (by cases z), fun f z => (by cases z), fun fs z => (by cases z)⟩
theorem WR.lockK {ω : Wd} {μ : Mem} {H : Hp} {i : Nat} {a : Addr} {kvs : List (Key × Dt)} (w : WR ω μ H) (h : ω.α[i]? = some a) (e : μ[i]? = some (.dK kvs)) : ∃ vs, H a = some (.dK vs) ∧ ω.B a = none ∧ ∀ od : Obj, Le ω { ω with B := upd ω.B a (.frz od (.dK vs)) } ∧ WR { ω with B := upd ω.B a (.frz od (.dK vs)) } (μ.set i (.lk kvs)) (upd H a (.frz od (.dK vs))) := by
  obtain ⟨hb, vs, hx, r⟩ := w.at_ i a _ h e
  refine ⟨vs, hx, hb, fun od => ?_⟩
  have l : Le ω { ω with B := upd ω.B a (.frz od (.dK vs)) } := ⟨rfl, fun _ _ h => h, same_upd hb, rfl⟩
  have hi : i < μ.length := (List.getElem?_eq_some_iff.mp e).1
  refine ⟨l, ⟨same_upd2 w.x, by rw [List.length_set]; exact w.len, w.inj, fun j c o h1 e1 => ?_, same_hid w.fr (w.fa i a h), w.fa, fun c o e1 => ⟨(upd_ne (ne_of_none e1 (w.fa i a h))).trans (w.fb c o e1).1, (w.fb c o e1).2⟩⟩⟩
  have h1 : ω.α[j]? = some c := h1
  by_cases hj : j = i
  · subst hj
    rw [h] at h1
    cases h1
    rw [List.getElem?_set_self hi] at e1
    cases e1
    exact ⟨od, vs, upd_same, upd_same, r.mono l⟩
  · rw [List.getElem?_set_ne (Ne.symm hj)] at e1
    have hne : c ≠ a := fun z => hj (w.inj j i c h1 (by rw [z]; exact h))
    exact (w.at_ j c o h1 e1).move l (upd_ne hne) fun z => (upd_ne hne).trans z
theorem WR.freeK {ω : Wd} {μ : Mem} {H : Hp} {i : Nat} {a : Addr} {od : Obj} {vs : List (Key × V)} {kvs : List (Key × Dt)} (w : WR ω μ H) (h : ω.α[i]? = some a) (hB : ω.B a = some (.frz od (.dK vs))) (e : μ[i]? = some (.lk kvs)) :
    H a = some (.frz od (.dK vs)) ∧ WR { ω with B := del ω.B a } (μ.set i (.dK kvs)) (upd H a (.dK vs)) := by
  obtain ⟨o2, vs2, b2, hx, r⟩ := w.at_ i a _ h e
  rw [hB] at b2
  cases b2
  have hi : i < μ.length := (List.getElem?_eq_some_iff.mp e).1
  have nl := nolstK (od := od) (vs := vs)
  refine ⟨hx, ⟨fun c u q => ?_, by rw [List.length_set]; exact w.len, w.inj, fun j c o h1 e1 => ?_, fun c u q => ?_, w.fa, fun c o e1 => ?_⟩⟩
  · have q : del ω.B a c = some u := q
    by_cases hc : c = a
    · rw [hc, del_same] at q
      cases q
    · rw [del_ne hc] at q
      rw [upd_ne hc]
      exact w.x c u q
  · have h1 : ω.α[j]? = some c := h1
    by_cases hj : j = i
    · subst hj
      rw [h] at h1
      cases h1
      rw [List.getElem?_set_self hi] at e1
      cases e1
      exact ⟨del_same, vs, upd_same, r.unl hB nl⟩
    · rw [List.getElem?_set_ne (Ne.symm hj)] at e1
      have hne : c ≠ a := fun z => hj (w.inj j i c h1 (by rw [z]; exact h))
      exact (w.at_ j c o h1 e1).unl hB nl hne (upd_ne hne)
  · have q : ω.F c = some u := q
    have hc : c ≠ a := ne_of_none q (w.fa i a h)
    rw [upd_ne hc]
    exact w.fr c u q
  · have e1 : ω.F c = some o := e1
    have hc : c ≠ a := ne_of_none e1 (w.fa i a h)
    exact ⟨(del_ne hc).trans (w.fb c o e1).1, (w.fb c o e1).2⟩
def mLockK (pick m : MX) : MX := fun δ μ => match pick δ μ with
  | .ok (.ptr i) _ => (match μ[i]? with
    | some (.dK kvs) => (match m δ (μ.set i (.lk kvs)) with
      | .ok d μ2 => (match μ2[i]? with
        | some (.lk kvs2) => .ok d (μ2.set i (.dK kvs2))
        | _ => .no)
      | _ => .no)
    | _ => .no)
  | _ => .no
theorem ev_lockK {Γ : Gm} {W : WX} {t : TE} {pick m : MX} (ht : EV Γ W t m) : EV Γ W (tLockE t) (mLockK pick m) := fun σ H Q ⟨ω, δ, μ, hg, he, hw, h⟩ => by
  unfold mLockK at h
  split at h
  · rename_i i μ0 ep
    split at h
    · rename_i kvs e
      have hi : i < ω.α.length := by rw [hw.len]; exact (List.getElem?_eq_some_iff.mp e).1
      have ha : ω.α[i]? = some ω.α[i] := List.getElem?_eq_getElem hi
      generalize ω.α[i] = a at ha
      obtain ⟨vs, hx, hb, k⟩ := hw.lockK ha e
      refine ⟨a, .dK vs, hx, trivial, fun od => ?_⟩
      obtain ⟨l1, w1⟩ := k od
      refine ht σ _ _ ⟨_, δ, _, l1.g.trans hg, he.mono l1, w1, ?_⟩
      cases em : m δ (μ.set i (.lk kvs)) with
      | no => rw [em] at h; exact h.elim
      | ex n ns es μ2 => rw [em] at h; exact h.elim
      | ok d μ2 =>
        rw [em] at h
        dsimp only at h
        split at h
        · rename_i kvs2 e2
          intro v ω' H' l' w' r'
          have hB : ω'.B a = some (.frz od (.dK vs)) := l'.b _ _ upd_same
          obtain ⟨hx', w2⟩ := w'.freeK (l'.a _ _ ha) hB e2
          have nl := nolstK (od := od) (vs := vs)
          refine ⟨hx', h v { ω' with B := del ω'.B a } _ ⟨(l1.trans l').g, fun j c q => l'.a j c q, fun c u q => ?_, (l1.trans l').f⟩ w2 (r'.unl hB nl)⟩
          have hc : c ≠ a := ne_of_none q hb
          show del ω'.B a c = some u
          rw [del_ne hc]
          exact l'.b _ _ (by show upd ω.B a _ c = some u; rw [upd_ne hc]; exact q)
        · exact h.elim
    · exact h.elim
  · exact h.elim
def sLockK (pick : MX) (m : MS) : MS := fun δ μ => match pick δ μ with
  | .ok (.ptr i) _ => (match μ[i]? with
    | some (.dK kvs) => (match m δ (μ.set i (.lk kvs)) with
      | .nx δ' μ2 => (match μ2[i]? with
        | some (.lk kvs2) => .nx δ' (μ2.set i (.dK kvs2))
        | _ => .no)
      | .rt d μ2 => (match μ2[i]? with
        | some (.lk kvs2) => .rt d (μ2.set i (.dK kvs2))
        | _ => .no)
      | .bk δ' μ2 => (match μ2[i]? with
        | some (.lk kvs2) => .bk δ' (μ2.set i (.dK kvs2))
        | _ => .no)
      | .ct δ' μ2 => (match μ2[i]? with
        | some (.lk kvs2) => .ct δ' (μ2.set i (.dK kvs2))
        | _ => .no)
      | .ex n ns es δ' μ2 => .ex n ns es δ' μ2
      | .no => .no)
    | _ => .no)
  | _ => .no
theorem sv_lockK {Γ : Gm} {W : WX} {t : TS} {pick : MX} {m : MS} (ht : SV Γ W t m) : SV Γ W (tLock t) (sLockK pick m) := fun D σ H ⟨ω, δ, μ, hg, he, hw, h⟩ => by
  unfold sLockK at h
  split at h
  · rename_i i μ0 ep
    split at h
    · rename_i kvs e
      have hi : i < ω.α.length := by rw [hw.len]; exact (List.getElem?_eq_some_iff.mp e).1
      have ha : ω.α[i]? = some ω.α[i] := List.getElem?_eq_getElem hi
      generalize ω.α[i] = a at ha
      obtain ⟨vs, hx, hb, k⟩ := hw.lockK ha e
      refine ⟨a, .dK vs, hx, trivial, fun od => ?_⟩
      obtain ⟨l1, w1⟩ := k od
      refine ht _ σ _ ⟨_, δ, _, l1.g.trans hg, he.mono l1, w1, ?_⟩
      have nl := nolstK (od := od) (vs := vs)
      have open_ : ∀ {ω' : Wd} {μ2 : Mem} {H' : Hp} {kvs2 : List (Key × Dt)}, Le { ω with B := upd ω.B a (.frz od (.dK vs)) } ω' → WR ω' μ2 H' → μ2[i]? = some (.lk kvs2) → H' a = some (.frz od (.dK vs)) ∧ ω'.B a = some (.frz od (.dK vs)) ∧ Le ω { ω' with B := del ω'.B a } ∧ WR { ω' with B := del ω'.B a } (μ2.set i (.dK kvs2)) (upd H' a (.dK vs)) := by
        intro ω' μ2 H' kvs2 l' w' e2
        have hB : ω'.B a = some (.frz od (.dK vs)) := l'.b _ _ upd_same
        obtain ⟨hx', w2⟩ := w'.freeK (l'.a _ _ ha) hB e2
        refine ⟨hx', hB, ⟨(l1.trans l').g, fun j c q => l'.a j c q, fun c u q => ?_, (l1.trans l').f⟩, w2⟩
        have hc : c ≠ a := ne_of_none q hb
        show del ω'.B a c = some u
        rw [del_ne hc]
        exact l'.b _ _ (by show upd ω.B a _ c = some u; rw [upd_ne hc]; exact q)
      have envU : ∀ {ω' : Wd} {σ' : L2.St} {δ' : Env}, ω'.B a = some (.frz od (.dK vs)) → EnvR ω' σ' δ' → EnvR { ω' with B := del ω'.B a } σ' δ' := fun hB r => ⟨r.len, fun i d e => let ⟨v, q, z⟩ := r.at_ i d e; ⟨v, q, z.unl hB nl⟩⟩
      cases em : m δ (μ.set i (.lk kvs)) with
      | no => rw [em] at h; exact h.elim
      | ex n ns es δ' μ2 =>
        rw [em] at h
        exact fun dd σ' ω' H' l' w' e' x' => h dd σ' ω' H' (l1.trans l') w' e' x'
      | nx δ' μ2 =>
        rw [em] at h
        dsimp only at h
        split at h
        · rename_i kvs2 e2
          intro σ' ω' H' l' w' e'
          obtain ⟨h1, hB, l2, w2⟩ := open_ l' w' e2
          exact ⟨h1, h σ' _ _ l2 w2 (envU hB e')⟩
        · exact h.elim
      | bk δ' μ2 =>
        rw [em] at h
        dsimp only at h
        split at h
        · rename_i kvs2 e2
          intro σ' ω' H' l' w' e'
          obtain ⟨h1, hB, l2, w2⟩ := open_ l' w' e2
          exact ⟨h1, h σ' _ _ l2 w2 (envU hB e')⟩
        · exact h.elim
      | ct δ' μ2 =>
        rw [em] at h
        dsimp only at h
        split at h
        · rename_i kvs2 e2
          intro σ' ω' H' l' w' e'
          obtain ⟨h1, hB, l2, w2⟩ := open_ l' w' e2
          exact ⟨h1, h σ' _ _ l2 w2 (envU hB e')⟩
        · exact h.elim
      | rt d μ2 =>
        rw [em] at h
        dsimp only at h
        split at h
        · rename_i kvs2 e2
          intro v ω' H' l' w' r'
          obtain ⟨h1, hB, l2, w2⟩ := open_ l' w' e2
          exact ⟨h1, h v _ _ l2 w2 (r'.unl hB nl)⟩
        · exact h.elim
    · exact h.elim
  · exact h.elim

theorem RpK.keysT {κ : Type} {ω : Wd} {vs : List (κ × V)} {ds : List (κ × Dt)} (r : RpK ω vs ds) : vs.map (·.1) = ds.map (·.1) := by
  induction r with
  | nil => rfl
  | cons a r ih => rw [List.map_cons, List.map_cons, ih]

/-! ### keys that are tuples -/
def keyL : List Dt → Option (List Key)
  | [] => some []
  | d :: l => match keyD d, keyL l with
    | some k, some ks => some (k :: ks)
    | _, _ => none
def keyT : Dt → Option (List Key)
  | .tup l => keyL l
  | _ => none
theorem keyL_ok {ω : Wd} : ∀ {l : List Dt} {vs : List V} {ks : List Key}, RpL ω vs l → keyL l = some ks → vs = ks.map kV
  | [], _, _, .nil, h => by
    cases h
    rfl
  | d :: l, _, ks, .cons r rs, h => by
    unfold keyL at h
    split at h
    · rename_i k ks e1 e2
      cases h
      rw [List.map_cons, keyD_ok r e1, keyL_ok rs e2]
    · cases h
theorem keyT_ok {ω : Wd} {v : V} {d : Dt} {ks : List Key} (r : Rp ω v d) (h : keyT d = some ks) : ∃ b, v = .ref b ∧ ω.B b = some (.tup (ks.map kV)) := by
  cases r with
  | tup h1 rl =>
    rw [keyL_ok rl h] at h1
    exact ⟨_, rfl, h1⟩
  | _ => cases h
def keyDt : Key → Dt
  | .inl i => .int i
  | .inr s => .str s
theorem keyDt_rp {ω : Wd} (k : Key) : Rp ω (kV k) (keyDt k) := by
  cases k with
  | inl i => exact .int i
  | inr s => exact .str s
theorem keyDt_rpL {ω : Wd} : ∀ ks : List Key, RpL ω (ks.map kV) (ks.map keyDt)
  | [] => .nil
  | k :: ks => .cons (keyDt_rp k) (keyDt_rpL ks)
def valT (kvs : List (List Key × Dt)) (k : List Key) : Option Dt := (kvs.find? fun kv => decide (kv.1 = k)).map (·.2)
def putT (kvs : List (List Key × Dt)) (k : List Key) (v : Dt) : List (List Key × Dt) :=
  if (kvs.any fun kv => decide (kv.1 = k)) = true then kvs.map (fun kv => if kv.1 = k then (kv.1, v) else kv) else kvs ++ [(k, v)]
def dropT (kvs : List (List Key × Dt)) (k : List Key) : List (List Key × Dt) := kvs.filter fun kv => decide (kv.1 ≠ k)
section
variable {ω : Wd} {k : List Key}
theorem RpK.valT {vs : List (List Key × V)} {ds : List (List Key × Dt)} (r : RpK ω vs ds) : (∀ d, DM.valT ds k = some d → ∃ v, valV vs k = some v ∧ Rp ω v d) ∧ (DM.valT ds k = none → valV vs k = none) := by
  induction r with
  | nil => exact ⟨fun d h => (nomatch h), fun _ => rfl⟩
  | @cons j u e vs ds a r ih =>
    unfold DM.valT valV at ih ⊢
    rw [List.find?_cons, List.find?_cons]
    by_cases h : j = k
    · rw [decide_eq_true h]
      exact ⟨fun d q => (by cases q; exact ⟨u, rfl, a⟩), fun q => (nomatch q)⟩
    · rw [decide_eq_false h]
      exact ih
theorem RpK.anyT {vs : List (List Key × V)} {ds : List (List Key × Dt)} (r : RpK ω vs ds) : (vs.any fun kv => decide (kv.1 = k)) = ds.any fun kv => decide (kv.1 = k) := by
  induction r with
  | nil => rfl
  | cons a r ih => rw [List.any_cons, List.any_cons, ih]
theorem RpK.appT {vs ws : List (List Key × V)} {ds es : List (List Key × Dt)} (r : RpK ω vs ds) (q : RpK ω ws es) : RpK ω (vs ++ ws) (ds ++ es) := by
  induction r with
  | nil => exact q
  | cons a r ih => exact .cons a ih
theorem RpK.mapPutT {v : V} {d : Dt} (hv : Rp ω v d) {vs : List (List Key × V)} {ds : List (List Key × Dt)} (r : RpK ω vs ds) : RpK ω (vs.map fun kv => if kv.1 = k then (kv.1, v) else kv) (ds.map fun kv => if kv.1 = k then (kv.1, d) else kv) := by
  induction r with
  | nil => exact .nil
  | @cons j u e vs ds a r ih =>
    rw [List.map_cons, List.map_cons]
    by_cases h : j = k
    · rw [if_pos h, if_pos h]
      exact .cons hv ih
    · rw [if_neg h, if_neg h]
      exact .cons a ih
theorem RpK.putT {v : V} {d : Dt} (hv : Rp ω v d) {vs : List (List Key × V)} {ds : List (List Key × Dt)} (r : RpK ω vs ds) : RpK ω (putK vs k v) (DM.putT ds k d) := by
  unfold putK DM.putT
  rw [r.anyT]
  split
  · exact r.mapPutT hv
  · exact r.appT (.cons hv .nil)
theorem RpK.dropT {vs : List (List Key × V)} {ds : List (List Key × Dt)} (r : RpK ω vs ds) : RpK ω (dropK vs k) (DM.dropT ds k) := by
  unfold dropK DM.dropT
  induction r with
  | nil => exact .nil
  | @cons j u e vs ds a r ih =>
    by_cases h : j = k
    · rw [List.filter_cons, List.filter_cons]
      simp only [h, ne_eq, not_true_eq_false, decide_false, Bool.false_eq_true, if_false]
      exact ih
    · rw [List.filter_cons, List.filter_cons]
      simp only [h, ne_eq, not_false_eq_true, decide_true, if_true]
      exact .cons a ih
end
/-- the dict by tuples that a value tells: to be read, to be written -/
def asQ (μ : Mem) : Dt → Option (List (List Key × Dt))
  | .ptr i => match μ[i]? with
    | some (.dT kvs) => some kvs
    | some (.lkT kvs) => some kvs
    | _ => none
  | _ => none
def asQw (μ : Mem) : Dt → Option (List (List Key × Dt))
  | .ptr i => match μ[i]? with
    | some (.dT kvs) => some kvs
    | _ => none
  | _ => none
theorem asQ_ok {ω : Wd} {μ : Mem} {H : Hp} {x : V} {d : Dt} {kvs : List (List Key × Dt)} (w : WR ω μ H) (r : Rp ω x d) (h : asQ μ d = some kvs) : ∃ (a : Addr) (vs : List (List Key × V)), x = .ref a ∧ Rd H a (.dT vs) ∧ RpK ω vs kvs := by
  cases r with
  | ptr h1 =>
    rename_i i a
    unfold asQ at h
    dsimp only at h
    split at h
    · rename_i ks e
      cases h
      obtain ⟨hb, vs, hx, rk⟩ := w.at_ i a _ h1 e
      exact ⟨a, vs, rfl, .inl hx, rk⟩
    · rename_i ks e
      cases h
      obtain ⟨o, vs, _, hx, rk⟩ := w.at_ i a _ h1 e
      exact ⟨a, vs, rfl, .inr ⟨o, hx⟩, rk⟩
    · cases h
  | _ => cases h
theorem asQw_ok {ω : Wd} {μ : Mem} {H : Hp} {x : V} {d : Dt} {kvs : List (List Key × Dt)} (w : WR ω μ H) (r : Rp ω x d) (h : asQw μ d = some kvs) : ∃ (i : Nat) (a : Addr) (vs : List (List Key × V)), d = .ptr i ∧ x = .ref a ∧ ω.α[i]? = some a ∧ ω.B a = none ∧ H a = some (.dT vs) ∧ RpK ω vs kvs := by
  cases r with
  | ptr h1 =>
    rename_i i a
    unfold asQw at h
    dsimp only at h
    split at h
    · rename_i ks e
      cases h
      obtain ⟨hb, vs, hx, rk⟩ := w.at_ i a _ h1 e
      exact ⟨i, a, vs, rfl, rfl, h1, hb, hx, rk⟩
    · cases h
  | _ => cases h
section
variable {Γ : Gm} {W : WX} {K : PySem.W.Frag} {ta tb tc : TE} {ma mb mc : MX}
/-- {} -/
def mTNew : MX := fun _ μ => .ok (.ptr μ.length) (μ ++ [.dT []])
theorem ev_tnew : EV Γ W tDNewT mTNew := fun σ H Q ⟨ω, δ, μ, hg, he, hw, h⟩ p hp => by
  obtain ⟨l2, w2, e2⟩ := hw.newM (u := .dT []) (o := .dT []) hp ⟨hw.x.free hp, [], upd_same, .nil⟩
  exact h _ _ _ l2 w2 (.ptr e2)
theorem getT_ok {ω : Wd} {μ : Mem} {H : Hp} {x y : V} {a b : Dt} {k : List Key} {kvs : List (List Key × Dt)} (w : WR ω μ H) (r1 : Rp ω x a) (r2 : Rp ω y b) (e2 : keyT b = some k) (e1 : asQ μ a = some kvs) : ∃ p vs, x = .ref p ∧ DGet H p y (valV vs k) ∧ RpK ω vs kvs := by
  obtain ⟨p, vs, rfl, hx, rk⟩ := asQ_ok w r1 e1
  obtain ⟨c, rfl, hc⟩ := keyT_ok r2 e2
  exact ⟨p, vs, rfl, .inr ⟨vs, k, c, hx, rfl, w.x _ _ hc, rfl⟩, rk⟩
/-- d[k] -/
def oTGet (a b : Dt) (μ : Mem) : R Dt := match asQ μ a, keyT b with
  | some kvs, some k => (match valT kvs k with
    | some d => .ok d μ
    | none => .no)
  | _, _ => .no
theorem ev_tget (ha : EV Γ W ta ma) (hb : EV Γ W tb mb) : EV Γ W (tDGet ta tb) (mOp oTGet ma mb) := fun σ H Q ⟨ω, δ, μ, hg, he, hw, h⟩ =>
  ha σ H _ ⟨ω, δ, μ, hg, he, hw, h.split fun a μ1 x ω1 H1 l1 w1 r1 h1 => hb σ H1 _ ⟨ω1, δ, μ1, l1.g.trans hg, he.mono l1, w1, GoE.split (f := fun y μ2 => oTGet a y μ2) h1 fun b μ2 y ω2 H2 l2 w2 r2 h2 => by
    unfold oTGet at h2
    split at h2
    · rename_i kvs k e1 e2
      split at h2
      · rename_i d e3
        obtain ⟨p, vs, rfl, g, rk⟩ := getT_ok w2 (r1.mono l2) r2 e2 e1
        obtain ⟨v, hv, rv⟩ := (rk.valT (k := k)).1 d e3
        rw [hv] at g
        exact ⟨p, v, rfl, g, h2.ok w2 rv⟩
      · exact h2.elim
    · exact h2.elim⟩⟩
/-- k in d -/
def oTIn (neg : Bool) (a b : Dt) (μ : Mem) : R Dt := match keyT a, asQ μ b with
  | some k, some kvs => .ok (.bl (neg ^^ (valT kvs k).isSome)) μ
  | _, _ => .no
theorem some_same {ω : Wd} {k : List Key} {vs : List (List Key × V)} {ds : List (List Key × Dt)} (r : RpK ω vs ds) : (valV vs k).isSome = (valT ds k).isSome := by
  cases e : valT ds k with
  | none =>
    rw [(r.valT (k := k)).2 e]
    rfl
  | some d =>
    obtain ⟨v, hv, _⟩ := (r.valT (k := k)).1 d e
    rw [hv]
    rfl
theorem ev_tin (ha : EV Γ W ta ma) (hb : EV Γ W tb mb) : EV Γ W (tDIn ta tb) (mOp (oTIn false) ma mb) := fun σ H Q ⟨ω, δ, μ, hg, he, hw, h⟩ =>
  ha σ H _ ⟨ω, δ, μ, hg, he, hw, h.split fun a μ1 x ω1 H1 l1 w1 r1 h1 => hb σ H1 _ ⟨ω1, δ, μ1, l1.g.trans hg, he.mono l1, w1, GoE.split (f := fun y μ2 => oTIn false a y μ2) h1 fun b μ2 y ω2 H2 l2 w2 r2 h2 => by
    unfold oTIn at h2
    split at h2
    · rename_i k kvs e1 e2
      obtain ⟨p, vs, ey, g, rk⟩ := getT_ok w2 r2 (r1.mono l2) e1 e2
      exact ⟨p, _, ey, g, by rw [some_same rk]; exact h2.ok w2 (by rw [Bool.false_xor]; exact .bl _)⟩
    · exact h2.elim⟩⟩
theorem ev_tnin (ha : EV Γ W ta ma) (hb : EV Γ W tb mb) : EV Γ W (tDNotIn ta tb) (mOp (oTIn true) ma mb) := fun σ H Q ⟨ω, δ, μ, hg, he, hw, h⟩ =>
  ha σ H _ ⟨ω, δ, μ, hg, he, hw, h.split fun a μ1 x ω1 H1 l1 w1 r1 h1 => hb σ H1 _ ⟨ω1, δ, μ1, l1.g.trans hg, he.mono l1, w1, GoE.split (f := fun y μ2 => oTIn true a y μ2) h1 fun b μ2 y ω2 H2 l2 w2 r2 h2 => by
    unfold oTIn at h2
    split at h2
    · rename_i k kvs e1 e2
      obtain ⟨p, vs, ey, g, rk⟩ := getT_ok w2 r2 (r1.mono l2) e1 e2
      exact ⟨p, _, ey, g, by rw [some_same rk]; exact h2.ok w2 (by rw [Bool.true_xor]; exact .bl _)⟩
    · exact h2.elim⟩⟩
/-- d.get(k, e) -/
def mTGet2 (a b c : MX) : MX := fun δ μ => (a δ μ).bind fun x μ1 => if (asQ μ1 x).isSome = true then (b δ μ1).bind fun y μ2 => (c δ μ2).bind fun z μ3 => (match asQ μ3 x, keyT y with
  | some kvs, some k => .ok ((valT kvs k).getD z) μ3
  | _, _ => .no) else .no
theorem ev_tget2 (ha : EV Γ W ta ma) (hb : EV Γ W tb mb) (hc : EV Γ W tc mc) : EV Γ W (tDGet2 ta tb tc) (mTGet2 ma mb mc) := fun σ H Q ⟨ω, δ, μ, hg, he, hw, h⟩ =>
  ha σ H _ ⟨ω, δ, μ, hg, he, hw, h.split fun a μ1 x ω1 H1 l1 w1 r1 h1 => by
    split at h1
    · rename_i hs
      cases e0 : asQ μ1 a with
      | none =>
        rw [e0] at hs
        cases hs
      | some kvs0 =>
        obtain ⟨p, vs0, rfl, hx, rk0⟩ := asQ_ok w1 r1 e0
        refine ⟨p, rfl, .inr ⟨vs0, hx⟩, hb σ H1 _ ⟨ω1, δ, μ1, l1.g.trans hg, he.mono l1, w1, h1.split fun b μ2 y ω2 H2 l2 w2 r2 h2 => hc σ H2 _ ⟨ω2, δ, μ2, l2.g.trans (l1.g.trans hg), (he.mono l1).mono l2, w2, GoE.split (f := fun z μ3 => match asQ μ3 a, keyT b with
          | some kvs, some k => .ok ((valT kvs k).getD z) μ3
          | _, _ => .no) h2 fun c μ3 z ω3 H3 l3 w3 r3 h3 => ?_⟩⟩⟩
        split at h3
        · rename_i kvs k e1 e2
          obtain ⟨p', vs, ex, g, rk⟩ := getT_ok w3 ((r1.mono l2).mono l3) (r2.mono l3) e2 e1
          cases ex
          refine ⟨valV vs k, g, ?_⟩
          cases e : valT kvs k with
          | none =>
            rw [(rk.valT (k := k)).2 e]
            rw [e] at h3
            exact h3.ok w3 r3
          | some d =>
            obtain ⟨v, hv, rv⟩ := (rk.valT (k := k)).1 d e
            rw [hv]
            rw [e] at h3
            exact h3.ok w3 rv
        · exact h3.elim
    · exact h1.elim⟩
/-- d[k] = v -/
def stPutT (δ : Env) (y x z : Dt) (μ : Mem) : O := match x, asQw μ x, keyT z with
  | .ptr i, some kvs, some k => if kvs.length ≤ 1000000 then .nx δ (μ.set i (.dT (putT kvs k y))) else .no
  | _, _, _ => .no
def sTPutM (v d k : MX) : MS := fun δ μ => (v δ μ).thn δ fun y μ1 => (d δ μ1).thn δ fun x μ2 => (k δ μ2).thn δ fun z μ3 => stPutT δ y x z μ3
theorem sv_tput (hv : EV Γ W tc mc) (hd : EV Γ W ta ma) (hk : EV Γ W tb mb) : SV Γ W (sDPut ta tb tc) (sTPutM mc ma mb) := fun D σ H ⟨ω, δ, μ, hg, he, hw, h⟩ =>
  hv σ H _ ⟨ω, δ, μ, hg, he, hw, GoE.splitS (f := fun y μ1 => (ma δ μ1).thn δ fun x μ2 => (mb δ μ2).thn δ fun z μ3 => stPutT δ y x z μ3) he h fun y μ1 v ω1 H1 l1 w1 r1 h1 => hd σ H1 _ ⟨ω1, δ, μ1, l1.g.trans hg, he.mono l1, w1, GoE.splitS (f := fun x μ2 => (mb δ μ2).thn δ fun z μ3 => stPutT δ y x z μ3) (he.mono l1) h1 fun x μ2 u ω2 H2 l2 w2 r2 h2 => hk σ H2 _ ⟨ω2, δ, μ2, l2.g.trans (l1.g.trans hg), (he.mono l1).mono l2, w2, GoE.splitS (f := fun z μ3 => stPutT δ y x z μ3) ((he.mono l1).mono l2) h2 fun z μ3 w ω3 H3 l3 w3 r3 h3 => by
    unfold stPutT at h3
    split at h3
    · rename_i i kvs k e2 e1
      split at h3
      · rename_i hl
        obtain ⟨i', p, vs, ei, rfl, hα, hB, hx, rk⟩ := asQw_ok w3 (r2.mono l3) e1
        cases ei
        obtain ⟨c, rfl, hc0⟩ := keyT_ok r3 e2
        have hc : kvs.length < sizeLine := Nat.lt_of_le_of_lt hl (show 1000000 < sizeLine by decide)
        refine ⟨p, _, rfl, .inr ⟨vs, k, c, hx, rfl, w3.x _ _ hc0, by rw [rk.len]; exact hc, rfl⟩, ?_⟩
        exact h3 σ ω3 _ (Le.refl _) (w3.put hα hB ⟨hB, _, upd_same, rk.putT ((r1.mono l2).mono l3)⟩) (((he.mono l1).mono l2).mono l3)
      · exact h3.elim
    · exact h3.elim⟩⟩⟩
/-- d.pop(k, e) -/
def bTPop (a : Dt) (ds : List Dt) (μ : Mem) : R Dt := match a, asQw μ a, ds with
  | .ptr i, some kvs, [y, z] => (match keyT y with
    | some k => (match valT kvs k with
      | some d => .ok d (μ.set i (.dT (dropT kvs k)))
      | none => .ok z μ)
    | none => .no)
  | _, _, _ => .no
theorem rm_tpop : RM DX.rPopT bTPop := fun W ω σ μ H x a xs ds Q w ra r h => by
  unfold bTPop at h
  split at h
  · rename_i i kvs y z e
    split at h
    · rename_i k ek
      obtain ⟨i', p, vs, ei, rfl, hα, hB, hx, rk⟩ := asQw_ok w ra e
      cases ei
      obtain ⟨vy, vz, rfl, ry, rz⟩ := r.two
      obtain ⟨c, rfl, hc⟩ := keyT_ok ry ek
      refine ⟨p, vs, k, c, vz, rfl, rfl, hx, w.x _ _ hc, fun v hv => ?_, fun hv => ?_⟩
      · cases ev : valT kvs k with
        | none =>
          rw [(rk.valT (k := k)).2 ev] at hv
          cases hv
        | some d =>
          rw [ev] at h
          obtain ⟨v2, hv2, rv⟩ := (rk.valT (k := k)).1 d ev
          rw [hv] at hv2
          cases hv2
          exact h v ω _ (Le.refl _) (w.put hα hB ⟨hB, _, upd_same, rk.dropT⟩) rv
      · cases ev : valT kvs k with
        | none =>
          rw [ev] at h
          exact h vz ω _ (Le.refl _) w rz
        | some d =>
          obtain ⟨v2, hv2, rv⟩ := (rk.valT (k := k)).1 d ev
          rw [hv] at hv2
          cases hv2
    · exact h.elim
  · exact h.elim
theorem k_tpop {X : Cx} (hu : X.A.units + 1 < cLine) : MtR X "dict.pop" DX.rPopT := DX.mt_popT hu
/-- len(d) -/
theorem k_lenT {X : Cx} : CallR X (.builtin "len") rLenT := call_len_dT
def cLenT (ds : List Dt) (μ : Mem) : R Dt := match ds with
  | [d] => (match asQw μ d with
    | some kvs => .ok (.int kvs.length) μ
    | none => .no)
  | _ => .no
theorem rc_lenT : RC Γ rLenT cLenT := fun W ω σ μ H xs ds Q hg w r h => by
  unfold cLenT at h
  split at h
  · rename_i d
    split at h
    · rename_i kvs e
      obtain ⟨x, rfl, rx⟩ := r.one
      obtain ⟨i, a, vs, rfl, rfl, _, _, hx, rk⟩ := asQw_ok w rx e
      exact ⟨a, vs, rfl, hx, by rw [rk.len]; exact h.ok w (.int _)⟩
    · exact h.elim
  · exact h.elim
/-! ### walks over a locked dict -/
def miKeysT (a : MX) : MI := fun δ μ => (a δ μ).bind fun x μ1 => match x with
  | .ptr i => (match μ1[i]? with
    | some (.lkT kvs) => .ok (kvs.map fun kv => Dt.tup (kv.1.map keyDt), some (i, MO.lkT kvs)) μ1
    | _ => .no)
  | _ => .no
theorem iv_keysT (ha : EV Γ W ta ma) : IV Γ W (iKeys ta) (miKeysT ma) := fun σ H Q ⟨ω, δ, μ, hg, he, hw, h⟩ =>
  ha σ H _ ⟨ω, δ, μ, hg, he, hw, GoE.split (f := fun x μ1 => match x with
    | .ptr i => (match μ1[i]? with
      | some (.lkT kvs) => .ok (kvs.map fun kv => Dt.tup (kv.1.map keyDt), some (i, MO.lkT kvs)) μ1
      | _ => .no)
    | _ => .no) h fun x μ1 v ω1 H1 l1 w1 r1 h1 => by
    cases r1 with
    | ptr hb =>
      rename_i i a
      dsimp only at h1
      split at h1
      · rename_i kvs e
        obtain ⟨o, vs, b1, hx, rk⟩ := w1.at_ _ _ _ hb e
        refine ⟨a, o, rfl, .inr ⟨vs, hx, h1 _ ω1 H1 (Le.refl _) w1 ?_⟩⟩
        intro j ω2 μ2 H2 l2 w2 hok
        have hx2 : H2 a = some (.frz o (.dT vs)) := w2.x _ _ (l2.b _ _ b1)
        have hlen : vs.length = kvs.length := rk.len
        refine ⟨fun hj => ⟨hx2, by rw [hlen]; simpa using hj⟩, fun d hd => ?_⟩
        have hj : j < kvs.length := by
          have := (List.getElem?_eq_some_iff.mp hd).1
          simpa using this
        refine ⟨⟨hx2, by rw [hlen]; exact hj⟩, fun x H3 hy => ?_⟩
        obtain ⟨rfl, k, vv, q, ek, rfl, hq⟩ := hy
        obtain ⟨ω3, l3, w3, b3⟩ := w2.knowT hq
        refine ⟨ω3, l3, w3, ?_⟩
        have hk : kvs[j]?.map (·.1) = some k := by
          have z := congrArg (fun l => l[j]?) rk.keysT
          simp only [List.getElem?_map] at z
          rw [← z, ek]
          rfl
        rw [List.getElem?_map] at hd
        obtain ⟨kv, ekv, rfl⟩ := Option.map_eq_some_iff.mp hd
        rw [ekv] at hk
        cases hk
        exact .tup b3 (keyDt_rpL _)
      · exact h1.elim
    | _ => exact h1.elim⟩
end
/-! ### in a tuple of anything -/
def rInT (K : PySem.W.Frag) (neg : Bool) : R2 := fun x y H Q => ∃ d ds, Dp K H x d ∧ Dp K H y (.tuple ds) ∧ SeqAt.shaped d = true ∧ SeqAt.shaped (.tuple ds) = true ∧ Q (.bl (neg ^^ ds.any fun z => PyData.eqv z d)) H
theorem hu65 {A : Around} {k : Nat} (hr : Room k A) : A.units + 65 < cLine := by
  have := hr.un
  omega
theorem op_inT {X : Cx} {K : PySem.W.Frag} (hK : X.K = K) (hu : X.A.units + 65 < cLine) : OpR X (compareOp .In) (rInT K false) := by
  subst hK
  intro pins s σ H x y v u Q I rx ry h
  obtain ⟨d, ds, hd, he, sd, se, q⟩ := h
  obtain ⟨as, r1⟩ := Dp.reads I d x v hd rx
  obtain ⟨bs, r2⟩ := Dp.reads I (.tuple ds) y u he ry
  rw [Bool.false_xor] at q
  exact SeqAt.in_tuple_reads r2 r1 (SeqAt.canLay_of_shaped se) (SeqAt.canLay_of_shaped sd) (room_in_shaped sd hu) ⟨.bl _, H, I, rfl, q⟩
theorem op_notInT {X : Cx} {K : PySem.W.Frag} (hK : X.K = K) (hu : X.A.units + 65 < cLine) : OpR X (compareOp .NotIn) (rInT K true) := by
  subst hK
  intro pins s σ H x y v u Q I rx ry h
  obtain ⟨d, ds, hd, he, sd, se, q⟩ := h
  obtain ⟨as, r1⟩ := Dp.reads I d x v hd rx
  obtain ⟨bs, r2⟩ := Dp.reads I (.tuple ds) y u he ry
  rw [Bool.true_xor] at q
  exact SeqAt.notIn_tuple_reads r2 r1 (SeqAt.canLay_of_shaped se) (SeqAt.canLay_of_shaped sd) (room_in_shaped sd hu) ⟨.bl _, H, I, rfl, q⟩
def oInT (neg : Bool) (a b : Dt) (μ : Mem) : R Dt := match toPM μ 8 a, toPM μ 8 b with
  | some p, some (.tuple ds) => if SeqAt.shaped p = true ∧ SeqAt.shaped (.tuple ds) = true then .ok (.bl (neg ^^ ds.any fun z => PyData.eqv z p)) μ else .no
  | _, _ => .no
theorem ro_inT {Γ : Gm} {neg : Bool} : RO Γ (rInT Γ.K neg) (oInT neg) := fun W ω σ μ H x y a b Q hg w ra rb h => by
  unfold oInT at h
  split at h
  · rename_i p ds e1 e2
    split at h
    · rename_i hs
      obtain ⟨h1, h2, h3⟩ := toPM_dp (K := Γ.K) (by rw [hg]) w 8 a p x e1 ra
      obtain ⟨k1, k2, k3⟩ := toPM_dp (K := Γ.K) (by rw [hg]) w 8 b _ y e2 rb
      exact ⟨p, ds, h1, k1, hs.1, hs.2, h.ok w (.bl _)⟩
    · exact h.elim
  · exact h.elim
/-- a written tuple -/
theorem ev_ktp {Γ : Gm} {W : WX} {n : Nat} {xs : List V} {ds : List Dt} (h : KTup Γ.K (Γ.c n) xs) (r : ∀ ω : Wd, RpL ω xs ds) : EV Γ W (tC (.ref (Γ.c n))) (mC (.ktp ds)) := ev_c fun ω hg => by
  subst hg
  exact .ktp h (r ω)
end DM

set_option linter.all false
set_option maxRecDepth 100000
set_option maxHeartbeats 4000000
/-! DMH: except A: without a name; sorted(d) of a dict whose keys are tuples of texts. -/
namespace DM
open PySem PySem.Spec PyProof.Rows L2
def sTryO (cq : Nat → Option Bool) (b s : MS) : MS := fun δ μ => match b δ μ with
  | .ex n ns es δ' μ' => match cq n with
    | some true => (match s δ' μ' with
      | .ex _ _ _ _ _ => .no
      | o => o)
    | some false => .ex n ns es δ' μ'
    | none => .no
  | o => o
section
variable {Γ : Gm} {W : WX} {K : PySem.W.Frag}
theorem sv_tryO {cv : Value} {cq : Nat → Option Bool} {tb : WX → TS} {ts : Addr → Value → Option Addr → TS} {b s : MS} (hq : ∀ n k, cq n = some k → PySem.W.exmOne K (.ref (Γ.c n)) cv = some k) (hb : ∀ W, SV Γ W (tb W) b) (hs : ∀ a cls d, SV Γ W0 (ts a cls d) s) :
    SV Γ W (fun D σ H => tb (wOnly K cv ts W D) D σ H) (sTryO cq b s) := fun D σ H ⟨ω, δ, μ, hg, he, hw, h⟩ => hb _ D σ H ⟨ω, δ, μ, hg, he, hw, by
  unfold sTryO at h
  cases eb : b δ μ with
  | nx δ' μ' => rw [eb] at h; exact h
  | rt d μ' => rw [eb] at h; exact h
  | bk δ' μ' => rw [eb] at h; exact h
  | ct δ' μ' => rw [eb] at h; exact h
  | no => rw [eb] at h; exact h
  | ex n ns es δ' μ' =>
    rw [eb] at h
    intro dd σ' ω' H' l w e x
    cases ec : cq n with
    | none =>
      simp only [ec] at h
      exact h.elim
    | some k =>
      simp only [ec] at h
      refine ⟨k, by rw [hg]; exact hq n k ec, fun hk a na => ?_, fun hk => ?_⟩
      · subst hk
        refine hs _ _ _ _ _ _ ⟨ω', δ', μ', l.g.trans hg, e, w, ?_⟩
        have h : GoS W ω (match s δ' μ' with
          | .ex _ _ _ _ _ => .no
          | o => o) D := h
        have h := GoS.mono h l
        revert h
        cases s δ' μ' with
        | nx δ2 μ2 => exact fun h => h
        | bk δ2 μ2 => exact fun h => h
        | ct δ2 μ2 => exact fun h => h
        | rt d μ2 => exact fun h => h
        | ex n ns es δ2 μ2 => exact fun h => h.elim
        | no => exact fun h => h.elim
      · subst hk
        exact h dd σ' ω' H' l w e x⟩
end
theorem sTryO_ap {cq : Nat → Option Bool} {b s : MS} {δ : Env} {μ : Mem} : sTryO cq b s δ μ = (match b δ μ with
  | .ex n ns es δ' μ' => match cq n with
    | some true => (match s δ' μ' with
      | .ex _ _ _ _ _ => .no
      | o => o)
    | some false => .ex n ns es δ' μ'
    | none => .no
  | o => o) := rfl
/-! ### tuples of texts in their order -/
def kdT (k : List Str) : List (Int ⊕ List Nat) := k.map fun x => Sum.inr x.cps.toList
theorem kdT_inj : ∀ {x y : List Str}, kdT x = kdT y → x = y
  | [], [], _ => rfl
  | [], _ :: _, h => by cases h
  | _ :: _, [], h => by cases h
  | a :: x, b :: y, h => by
    unfold kdT at h
    rw [List.map_cons, List.map_cons] at h
    injection h with h1 h2
    injection h1 with h1
    rw [kdT_inj (x := x) (y := y) h2, Str.ext' (Array.toList_inj.mp h1)]
def leT (x y : List Str) : Bool := !lexLt itemOrd (kdT y) (kdT x)
theorem leT_kle {x y : List Str} : leT x y = true ↔ (listOrd itemOrd).kle (kdT x) (kdT y) := by
  unfold leT KeyOrd.kle
  rw [Bool.not_eq_true']
theorem leT_trans {x y z : List Str} (h : leT x y = true) (k : leT y z = true) : leT x z = true := leT_kle.mpr (KeyOrd.kle_trans (leT_kle.mp h) (leT_kle.mp k))
theorem leT_total (x y : List Str) : (leT x y || leT y x) = true := by
  rw [Bool.or_eq_true]
  cases h : lexLt itemOrd (kdT y) (kdT x) with
  | false => exact .inl (by unfold leT; rw [h]; rfl)
  | true => exact .inr (leT_kle.mpr (KeyOrd.kle_of_klt (O := listOrd itemOrd) h))
theorem leT_anti {x y : List Str} (h : leT x y = true) (k : leT y x = true) : x = y := kdT_inj ((listOrd itemOrd).total _ _ (leT_kle.mp k) (leT_kle.mp h))
def sortTT (l : List (List Str)) : List (List Str) := l.mergeSort leT
theorem sortTT_perm (l : List (List Str)) : (sortTT l).Perm l := List.mergeSort_perm l leT
theorem sortTT_pw (l : List (List Str)) : (sortTT l).Pairwise fun x y => leT x y = true := List.pairwise_mergeSort (le := leT) (fun x y z h k => leT_trans (x := x) (y := y) (z := z) h k) (fun x y => leT_total x y) l
theorem sortTT_eq {l m : List (List Str)} (p : l.Perm m) (h : l.Pairwise fun x y => leT x y = true) : l = sortTT m :=
  List.Perm.eq_of_pairwise (le := fun x y => leT x y = true) (fun x y _ _ h k => leT_anti h k) h (sortTT_pw m) (p.trans (sortTT_perm m).symm)
/-- of two that begin alike the second tells -/
theorem leT_two {n x y : Str} (h : leT [n, x] [n, y] = true) : ltS x y = true := by
  unfold leT kdT at h
  rw [Bool.not_eq_true', List.map_cons, List.map_cons, List.map_cons, List.map_cons, lex_self] at h
  obtain ⟨h1, _⟩ := lex_false.mp h
  unfold ltS
  rw [Bool.not_eq_true']
  exact h1
/-! ### sorted(d) -/
open PyProof.Rows.G in
theorem keyC_of {h : Heap} {shape : Nat → Bool} {a : Addr} {o : Obj} {xs : Array Value} {n : Nat} {l : List (Int ⊕ List Nat)} (ho : h.get? a = some o) (hc : o.cls = .type "tuple") (hd : o.data = .seq xs n)
    (hi : tupItems shape 0 xs.toList = some l) : tupKeyC h shape (.ref a) = some l := by
  unfold tupKeyC
  have e1 : isTupObj h (.ref a) = true := by simp [isTupObj, ho, hc]
  rw [if_pos e1]
  simp only [tupKey, ho, hd]
  exact hi
theorem items_strs : ∀ {us : List Value} {k : List Str} (i : Nat), StrsAre us k → tupItems (fun _ => true) i us = some (kdT k)
  | _, _, i, .nil => by simp [tupItems, kdT]
  | _, _, i, .cons x t r => by
    simp only [tupItems, if_true, items_strs (i + 1) r, Option.map_some, kdT, List.map_cons]
/-- a tuple of texts in a heap -/
def TupS (h : Heap) (b : Addr) (k : List Str) : Prop := ∃ o its n, h.get? b = some o ∧ o.cls = .type "tuple" ∧ o.data = .seq its n ∧ StrsAre its.toList k
theorem TupS.key {h : Heap} {b : Addr} {k : List Str} (t : TupS h b k) : G.tupKeyC h (fun _ => true) (.ref b) = some (kdT k) := by
  obtain ⟨o, its, n, h1, h2, h3, h4⟩ := t
  exact keyC_of h1 h2 h3 (items_strs 0 h4)
theorem TupS.of {h : Heap} {b : Addr} {k : List Str} (t : TupS h b k) (ne : k ≠ []) : ∃ f, TupOf h (fun _ => true) (.ref b) f := by
  obtain ⟨o, its, n, h1, h2, h3, h4⟩ := t
  cases e : its.toList with
  | nil =>
    rw [e] at h4
    cases h4
    exact absurd rfl ne
  | cons f r =>
    rw [e] at h4
    cases h4 with
    | cons x t r' => exact ⟨_, b, o, its, n, rfl, h1, h2, h3, by rw [← Array.getElem?_toList, e]; rfl, fun z => (nomatch z), fun _ => ⟨_, _, rfl⟩⟩
theorem tupsOf {h : Heap} : ∀ {bs : List Addr}, (∀ b ∈ bs, ∃ f, TupOf h (fun _ => true) (.ref b) f) → ∃ fs, TupsOf h (fun _ => true) (bs.map Value.ref) fs
  | [], _ => ⟨[], .nil⟩
  | b :: bs, h => by
    obtain ⟨f, e⟩ := h b List.mem_cons_self
    obtain ⟨fs, r⟩ := tupsOf (bs := bs) fun c hc => h c (List.mem_cons_of_mem _ hc)
    exact ⟨f :: fs, .cons e r⟩
def unS : V → Str
  | .str x => x
  | _ => default
/-- what stands at b -/
def keyS (H : Hp) (b : Addr) : List Str := match H b with
  | some (.tup vs) => vs.map unS
  | _ => []
theorem keyS_of {H : Hp} {b : Addr} {k : List Str} (h : H b = some (.tup (k.map V.str))) : keyS H b = k := by
  unfold keyS
  rw [h]
  dsimp only
  rw [List.map_map]
  exact List.map_id k
theorem refs_of : ∀ {us : List Value}, (∀ u ∈ us, ∃ b : Addr, u = .ref b) → ∃ bs : List Addr, us = bs.map Value.ref
  | [], _ => ⟨[], rfl⟩
  | u :: us, h => by
    obtain ⟨b, rfl⟩ := h _ List.mem_cons_self
    obtain ⟨bs, rfl⟩ := refs_of (us := us) fun x hx => h x (List.mem_cons_of_mem _ hx)
    exact ⟨b :: bs, rfl⟩
def rSortKT : List V → Hp → VK → Prop := fun xs H Q => ∃ (a : Addr) (kvs : List (List Key × V)) (ks : List (List Str)), xs = [.ref a] ∧ Rd H a (.dT kvs) ∧ kvs.map (·.1) = ks.map (List.map Sum.inr) ∧ (∀ k ∈ ks, k ≠ []) ∧ ks.length < 64 ∧
  ∀ (bs : List Addr) (p : Addr), H p = none → bs.map (keyS H) = sortTT ks → (∀ b ∈ bs, H b = some (.tup ((keyS H b).map V.str))) → Q (.ref p) (upd H p (.lst (bs.map V.ref)))
theorem keys_kt {H : Hp} : ∀ {kvs : List (List Key × V)} {xs : List (List Key × Addr × Value)} {ks : List (List Str)}, KT H kvs xs → kvs.map (·.1) = ks.map (List.map Sum.inr) → (xs.map fun x => x.2.1).map (keyS H) = ks ∧ ∀ b ∈ xs.map (fun x => x.2.1), H b = some (.tup ((keyS H b).map V.str))
  | _, _, [], .nil, _ => ⟨rfl, fun b hb => (nomatch hb)⟩
  | _, _, _ :: _, .nil, h => by cases h
  | _, _, [], .cons _ _, h => by cases h
  | _, _, k :: ks, .cons (a := p) (b := x) h t, e => by
    rw [List.map_cons, List.map_cons] at e
    injection e with e1 e2
    obtain ⟨i1, i2⟩ := keys_kt t e2
    have hb : H x.2.1 = some (.tup (k.map V.str)) := by
      rw [h.2.1, e1, List.map_map]
      rfl
    have hk := keyS_of hb
    refine ⟨by rw [List.map_cons, List.map_cons, i1, hk], fun b hm => ?_⟩
    rw [List.map_cons] at hm
    rcases List.mem_cons.mp hm with rfl | hm
    · rw [hk]
      exact hb
    · exact i2 b hm
open PyProof.Rows.G in
theorem call_sortKT {X : Cx} (hc : X.calm = true) : CallR X (.builtin "sorted") rSortKT := by
  intro pins s σ H xs us Q I r h
  obtain ⟨d, kvs, ks, rfl, hd, hks, hne, h64, q⟩ := h
  obtain ⟨u, rfl, rx⟩ := vals1 r
  cases rx
  obtain ⟨z, hs, xs, pr, o, es, ep, ho, hx, hdt, he, hn⟩ := (show ObjOk X.prog X.w H s.heap d (.dT kvs) from hd.ok I.hok)
  have l1 : es.size = xs.length := size_of_entries he
  have l2 : kvs.length = xs.length := Paired.length pr
  have l3 : kvs.length = ks.length := by simpa using congrArg List.length hks
  obtain ⟨hk1, hk2⟩ := keys_kt pr hks
  refine Calls.call_function_entry PyProof.Rows.kind_sorted PyProof.Rows.plain_sorted PyProof.Rows.entry_sorted (PyProof.Rows.args_sorted1 _) ?_
  unfold Builtin.«sorted»
  refine wpAny_bind (m := checkCount "sorted" 1 1 _) (wpAny_pure ?_)
  refine wpAny_bind (PySem.W.kdu_collect (A := X.A.in1) (kdl_raw hs hx hdt) (I.ok.hd hc) ho (by rw [sizeLine_eq]; omega) fun h' tk acc hk hacc => ?_)
  have ea : acc.toList = (xs.map fun x => x.2.1).map Value.ref := by
    rw [List.map_map]
    have hl : acc.toList.length = xs.length := by rw [Array.length_toList, hacc.1]; exact l1
    apply List.ext_getElem?
    intro j
    rw [List.getElem?_map]
    cases hj : acc.toList[j]? with
    | none =>
      have h1 := List.getElem?_eq_none_iff.mp hj
      rw [List.getElem?_eq_none (by omega)]
      all_goals rfl
    | some v =>
      obtain ⟨en, hen, hv⟩ := hacc.2 j v (by rw [← Array.getElem?_toList]; exact hj)
      have qe := entry_at he j
      rw [hen] at qe
      cases hb : xs[j]? with
      | none =>
        rw [hb] at qe
        exact nomatch (show some en = none from qe)
      | some b =>
        rw [hb] at qe
        have e2 : en = entryOfKey (tupleKind (mixKind X.prog X.w)) b := Option.some.inj qe
        rw [hv, e2]
        all_goals rfl
  generalize hbs : (xs.map fun x => x.2.1) = bs at hk1 hk2 ea
  have lb : bs.length = ks.length := by rw [← hbs, List.length_map]; omega
  have I1 : Inv X pins σ H { s with heap := h', toks := tk } := I.kept hk
  have hal : acc.toList.length = ks.length := by rw [ea, List.length_map, lb]
  refine wpAny_bind (wpAny_newList ?_ (by rw [hal, sizeLine_eq]; omega))
  have hoL : (h'.push (seqObj "list" acc.toList.toArray 0)).get? h'.objs.size = some (seqObj "list" acc.toList.toArray 0) := Heap.get?_push_size _ rfl
  show wpAny _ _ _ _ _ { s with heap := h'.push (seqObj "list" acc.toList.toArray 0), toks := tk }
  have tS : ∀ b ∈ bs, TupS (h'.push (seqObj "list" acc.toList.toArray 0)) b (keyS H b) := fun b hb => by
    obtain ⟨its, rv, ⟨o, e1, e2, n, e3⟩, _⟩ := I1.tuple (a := b) (xs := (keyS H b).map V.str) (.inl (.inl (hk2 b hb)))
    exact ⟨o, its.toArray, n, Heap.get?_push_of_some _ e1, e2, e3, by simpa using rv.strs⟩
  have nek : ∀ b ∈ bs, keyS H b ≠ [] := fun b hb => hne _ (by rw [← hk1]; exact List.mem_map_of_mem hb)
  obtain ⟨fs, ht⟩ := tupsOf fun b hb => (tS b hb).of (nek b hb)
  rw [← ea] at ht
  refine wpAny_bind (wpAny_holding (wpAny_call_entry PyProof.Rows.slot_list_sort ⟨_, hoL, rfl⟩ PyProof.Rows.entry_list_sort
    (list_sort_tups (shape := fun _ => true) (s := { s with heap := h'.push (seqObj "list" acc.toList.toArray 0), toks := tk }) hoL ht (fun v hv => by
      rw [ea] at hv
      obtain ⟨b, hb, rfl⟩ := List.mem_map.mp hv
      exact ⟨_, (tS b hb).key⟩) (by rw [hal, sizeLine_eq]; omega) fun st' hp hs _ => ⟨_, rfl, ?_⟩)
    (PyProof.Rows.args_list_sort _)))
  obtain ⟨e', he'⟩ := PyProof.Rows.sortedHeap_at (vs := acc.toList) (out := (arrOf st').map (·.2)) hoL
  have hl : (arrOf st').toList.Perm (acc.toList.zip acc.toList) := by rw [← pairsOf_toList]; exact Array.perm_iff_toList_perm.mp hp
  have hmem : ∀ p, p ∈ (arrOf st').toList → p.1 = p.2 ∧ p.1 ∈ acc.toList := fun p hp' => mem_zip_self (hl.mem_iff.mp hp')
  have hko : KeysOf (tupKindC (h'.push (seqObj "list" acc.toList.toArray 0)) fun _ => true) (arrOf st') := fun p hp' => by
    have := (hmem p hp').2
    rw [ea] at this
    obtain ⟨b, hb, e⟩ := List.mem_map.mp this
    exact ⟨_, by rw [← e]; exact (tS b hb).key⟩
  have hpw := keyLe_of_sorted hko (by rw [hp.size_eq]; exact hs)
  have eo : ((arrOf st').map (·.2)).toList = (arrOf st').toList.map (·.1) := by
    rw [Array.toList_map]; exact List.map_congr_left fun p hp' => (hmem p hp').1.symm
  have hpo : ((arrOf st').toList.map (·.1)).Perm (bs.map Value.ref) := by
    have e := hl.map (·.1)
    have e2 : (acc.toList.zip acc.toList).map (·.1) = acc.toList := List.map_fst_zip (Nat.le_refl _)
    rw [e2, ea] at e
    exact e
  obtain ⟨cs, ecs⟩ : ∃ cs : List Addr, (arrOf st').toList.map (·.1) = cs.map Value.ref := refs_of fun u hu => by
    obtain ⟨b, _, e⟩ := List.mem_map.mp (hpo.mem_iff.mp hu)
    exact ⟨b, e.symm⟩
  have hpc : cs.Perm bs := by
    rw [ecs] at hpo
    have e := hpo.map fun v => match v with | Value.ref b => b | _ => 0
    rw [List.map_map, List.map_map] at e
    have i1 : ∀ l : List Addr, l.map ((fun v => match v with | Value.ref b => b | _ => 0) ∘ Value.ref) = l := fun l => List.map_id l
    rw [i1, i1] at e
    exact e
  have hsort : cs.map (keyS H) = sortTT ks := by
    refine sortTT_eq (by rw [← hk1]; exact hpc.map _) ?_
    have h1 : ((arrOf st').toList.map (·.1)).Pairwise fun u v => ∀ b c, u = Value.ref b → v = Value.ref c → b ∈ bs → c ∈ bs → leT (keyS H b) (keyS H c) = true := by
      rw [List.pairwise_map]
      refine hpw.imp fun {p q} hpq b c e1 e2 hb hc' => ?_
      obtain ⟨x, y, k1, k2, k3⟩ := hpq
      rw [e1] at k1
      rw [e2] at k2
      have k1' : some (kdT (keyS H b)) = some x := (tS b hb).key.symm.trans k1
      have k2' : some (kdT (keyS H c)) = some y := (tS c hc').key.symm.trans k2
      cases k1'
      cases k2'
      exact leT_kle.mpr k3
    rw [ecs, List.pairwise_map] at h1
    rw [List.pairwise_map]
    refine List.Pairwise.imp_of_mem (fun {b c} hb hc' hh => hh b c rfl rfl (hpc.mem_iff.mp hb) (hpc.mem_iff.mp hc')) h1
  have hlen : (cs.map V.ref).length ≤ sizeLine := by
    rw [List.length_map, hpc.length_eq, lb, sizeLine_eq]
    omega
  refine wpAny_pure ⟨_, rfl, .ref h'.objs.size, upd H h'.objs.size (.lst (cs.map V.ref)), I1.laid (t' := tk) (fun b u e => ?_) (Nat.le_refl _)
    (show ObjOk X.prog X.w _ _ _ (.lst (cs.map V.ref)) from ⟨hlen, ((arrOf st').map (·.2)).toList, e', by rw [eo, ecs]; exact vals_refs _, by rw [Array.toArray_toList]; exact he'⟩), rfl, q cs _ (I1.hok.fresh (Nat.le_refl _)) hsort fun b hb => hk2 b (hpc.mem_iff.mp hb)⟩
  have hb : b < h'.objs.size := Heap.lt_size e
  rw [PyProof.Rows.sortedHeap_old (Nat.ne_of_lt hb) (by rw [size_push']; exact Nat.lt_succ_of_lt hb)]
  exact Heap.get?_push_of_some _ e
/-! its function of data -/
def strsK : List Key → Option (List Str)
  | [] => some []
  | .inr x :: r => (strsK r).map (x :: ·)
  | .inl _ :: _ => none
def asTT : List (List Key × Dt) → Option (List (List Str))
  | [] => some []
  | kv :: r => (strsK kv.1).bind fun x => (asTT r).map (x :: ·)
theorem strsK_ok : ∀ {k : List Key} {x : List Str}, strsK k = some x → k = x.map Sum.inr
  | [], x, h => by cases h; rfl
  | .inr y :: r, x, h => by
    unfold strsK at h
    obtain ⟨l, e, rfl⟩ := Option.map_eq_some_iff.mp h
    rw [strsK_ok e]
    rfl
  | .inl _ :: _, x, h => by cases h
theorem asTT_ok : ∀ {kvs : List (List Key × Dt)} {ks : List (List Str)}, asTT kvs = some ks → kvs.map (·.1) = ks.map (List.map Sum.inr)
  | [], ks, h => by cases h; rfl
  | kv :: r, ks, h => by
    unfold asTT at h
    obtain ⟨x, e1, e2⟩ := Option.bind_eq_some_iff.mp h
    obtain ⟨l, e3, rfl⟩ := Option.map_eq_some_iff.mp e2
    rw [List.map_cons, List.map_cons, asTT_ok e3, strsK_ok e1]
def tupsD (l : List (List Str)) : List Dt := l.map fun k => Dt.tup (k.map Dt.str)
def cSortK (ds : List Dt) (μ : Mem) : R Dt := match ds with
  | [d] => match (asQ μ d).bind asTT with
    | some ks => if (ks.all fun k => !k.isEmpty) = true ∧ ks.length < 64 then .ok (.lst (tupsD (sortTT ks))) μ else .no
    | none => .no
  | _ => .no
/-- tuples that stand somewhere are known from then on -/
theorem WR.knowTs {H : Hp} {μ : Mem} : ∀ {bs : List Addr} {ω : Wd}, WR ω μ H → (∀ b ∈ bs, H b = some (.tup ((keyS H b).map V.str))) → ∃ ω', Le ω ω' ∧ WR ω' μ H ∧ RpL ω' (bs.map V.ref) (tupsD (bs.map (keyS H)))
  | [], ω, w, _ => ⟨ω, Le.refl _, w, .nil⟩
  | b :: bs, ω, w, h => by
    obtain ⟨ω1, l1, w1, r1⟩ := WR.knowTs (bs := bs) w fun c hc => h c (List.mem_cons_of_mem _ hc)
    obtain ⟨ω2, l2, w2, b2⟩ := w1.knowT (h b List.mem_cons_self)
    exact ⟨ω2, l1.trans l2, w2, .cons (.tup b2 (RpL.strs _)) (r1.mono l2)⟩
section
variable {Γ : Gm}
theorem rc_sortK : RC Γ rSortKT cSortK := fun W ω σ μ H xs ds Q hg w r h => by
  unfold cSortK at h
  split at h
  · obtain ⟨v, rfl, rv⟩ := r.one
    split at h
    · rename_i ks e
      split at h
      · rename_i hl
        obtain ⟨kvs, e1, e2⟩ := Option.bind_eq_some_iff.mp e
        obtain ⟨p, vs, rfl, hx, rk⟩ := asQ_ok w rv e1
        refine ⟨p, vs, ks, rfl, hx, by rw [rk.keysT]; exact asTT_ok e2, fun k hk z => ?_, hl.2, fun bs q hq hs hb => ?_⟩
        · have := List.all_eq_true.mp hl.1 k hk
          rw [z] at this
          cases this
        · obtain ⟨ω1, l1, w1, r1⟩ := w.knowTs hb
          rw [hs] at r1
          exact (GoE.mono h l1).new w1 r1 hq
      · exact h.elim
    · exact h.elim
  · exact h.elim
end
end DM

set_option linter.all false
set_option maxRecDepth 100000
set_option maxHeartbeats 4000000
/-! DMI: except A as e, then except B without a name. -/
namespace DM
open PySem PySem.Spec PyProof.Rows L2
section
variable {X : Cx} {x y n : Str} {c c2 : Value} {i : Nat} {body suite suite2 : List Stmt} {b₀ d₀ : Stmt} {np np2 pos pos' pos2 : Pos} {tb : WX → TS} {ts : TS} {ts2 : Addr → Value → Option Addr → TS} {Wout : WX}
theorem ps_try_keepO (hs : X.stack = X.env :: X.outer) (hf : X.env.frame = some X.env.locals) (hex : X.ex = []) (hN : X.N.Nodup) (hi : X.N[i]? = some n) (hln : X.env.kindOf n = some .local) (hc : Names X x c) (hc2 : Names X y c2) (tk : Takes X Wout)
    (hb : ∀ (W : WX) (pn : List (Addr × Obj)) (xe : Value → Shared → Prop), Takes (X.tr pn xe) W → PassesOwn (model X.prog X.w) X.A X.env xe → PSs (X.tr pn xe) body (tb W))
    (hsu : ∀ a : Addr, PSs (supX X a) (b₀ :: suite) ts)
    (hsu2 : ∀ (a : Addr) (oe : Obj) (cls : Value) (d : Option Addr) (pn : List (Addr × Obj)), Zc cls d oe → (∃ vs, oe.data = .fields vs) → PSs (X.suite a ((a, oe) :: pn)) (d₀ :: suite2) (ts2 a cls d)) :
    PS X (.Try body [.ExceptHandler (some (.Name x np)) (some n) (b₀ :: suite) pos', .ExceptHandler (some (.Name y np2)) none (d₀ :: suite2) pos2] [] [] pos) (fun D σ H => tb (wKeep X.K c i ts (wOnly X.K c2 ts2 Wout D) D) D σ H) := by
  refine ⟨fun pins s σ H D I h => ?_⟩
  have ok := I.ok
  have hfr : X.A.frames = some (X.env :: X.outer) := by rw [ok.frames, hs]
  have hloc : Loc X.env.scope n := .inl hln
  refine wpAny_Try_except ?_
  refine wpAny_mono ((hb (wKeep X.K c i ts (wOnly X.K c2 ts2 Wout D) D) (X.pn ++ pins) (fun e s₁ => wpAny (model X.prog X.w) X.A (noteFrame e X.env) (fun _ s₂ => wpAny (model X.prog X.w) X.A (setFlight e none) (fun _ s₃ =>
    wpAny (model X.prog X.w) X.A (handleBy e X.env [.ExceptHandler (some (.Name x np)) (some n) (b₀ :: suite) pos', .ExceptHandler (some (.Name y np2)) none (d₀ :: suite2) pos2]) (SP X pins D) X.xe s₃) X.xe s₂) X.xe s₁) (fun u s' xx => ?_) PassesOwn.looking).run [] s σ H D (I.toTry _) h) (fun f s1 hsp => ?_) (fun e s1 he => he)
  · obtain ⟨a, B, sI, pins', σ', H', cls, d, rfl, J', nb, up, sky, na, os, ag, b, hb1, hyes, hno⟩ := xx
    have J : Inv X pins σ' H' sI := J'.ofTry ok
    have sky' : Sky B (X.env :: X.outer) a (Zc cls d) X.env.locals s'.heap := by rw [← hs]; exact sky
    show wpAny (model X.prog X.w) X.A (noteFrame (.ref a) X.env) _ _ _
    refine Sky.land Zc.steady hfr hf sky' fun h3 fl3 up3 => ?_
    have J3 : Inv X pins σ' H' { s' with heap := h3 } := J.landed nb fl3.1 (up.trans up3) os ag
    obtain ⟨oe3, vs3, he3, hz3, hd3⟩ := fl3.there
    have notFr : ∀ {h : Heap} {o : Obj} {vs : Array Value}, h.FunFrames B (X.env :: X.outer) → h.get? a = some o → o.data = .fields vs → a ∉ frs (X.env :: X.outer) := fun {h o vs} ff e dd hm => by
      obtain ⟨_, o', e', hnf⟩ := ff.mem hm
      rw [e] at e'; cases e'
      exact hnf _ dd
    have nfr := notFr fl3.2.2.1 he3 hd3
    have nL : a ≠ X.env.locals := fun z => nfr (List.mem_filterMap.mpr ⟨X.env, List.mem_cons_self, by rw [hf, z]⟩)
    have nF : a ∉ X.fs := fun hm => by
      obtain ⟨e, he, q⟩ := List.mem_filterMap.mp hm
      exact nfr (List.mem_filterMap.mpr ⟨e, List.mem_cons_of_mem _ he, q⟩)
    have S3 := J3.suite he3 hd3 na nL nF
    refine wpAny_handleBy_cons (codeAny_handlers_test ?_) (by intro q; cases q)
    have LT : PySem.W.Looks (model X.prog X.w) h3 (typeOf (.ref a)) cls := fun A Q E s k q => wpAny_typeOf_ref (k _ _ he3) (by rw [hz3.1]; exact q)
    have LM := PySem.W.exm_one (M := model X.prog X.w) (J3.kIn) LT hb1
    have test : ∀ {x : Str} {np : Pos} {c : Value}, Names X x c → ∀ {Q : Value → Shared → Prop} {E : Value → Shared → Prop}, Q c { s' with heap := h3 } → wpAny (model X.prog X.w) (X.A.mark (some (.ref a))) (eval (.Name x np) X.env) Q E { s' with heap := h3 } := fun {x np c} hc {Q E} q => by
      obtain ⟨hg, hdbg, hm | ⟨hm, hv, hnn⟩⟩ := hc
      · exact ld_glob (X := X.suite a ((a, oe3) :: (X.pn ++ pins))) S3 hg hm q hdbg
      · exact ld_blt (X := X.suite a ((a, oe3) :: (X.pn ++ pins))) S3 hg hm hv q hnn hdbg
    refine test hc (LM.here ?_)
    cases b with
    | true =>
      refine codeAny_handlers_suite_as ?_
      refine HandSPX.lands_againZ fl3 fun h4 fl4 up4 => ?_
      have J4 : Inv X pins σ' H' { s' with heap := h4 } := J.landed nb fl4.1 ((up.trans up3).trans up4) os ag
      obtain ⟨oe4, vs4, he4, hz4, hd4⟩ := fl4.there
      have S4 : Inv (supX X a) pins σ' (upd H' a (exK cls d a)) { s' with heap := h4 } := caught_track hex J J4 nb fl4.2.1 (by rw [hs]; exact nfr) nL na he4 hz4 hd4
      refine store_ok (X := supX X a) (v := .ref a) S4 hN hi hloc rfl (fun s5 S5 => ?_) (.inr hln)
      refine wpAny_mono ((hsu a).run pins s5 _ _ _ S5 (hyes rfl a na)) (fun f s6 hsp => ?_) (fun _ _ z => False.elim z)
      have end_ : ∀ {σ6 : L2.St} {H6 : Hp} {Q : Shared → Prop}, Inv (supX X a) pins σ6 H6 s6 → (∀ s7, Inv X pins (σ6.set i none) H6 s7 → Q s7) →
          wpAny (model X.prog X.w) X.A (do bindName X.env n .none; unbindBehindTheSuite X.env n pos') (fun _ s7 => Q s7) X.xe s6 := fun {σ6 H6 Q} S6 hq => gone_ok (Inv.ofSup S6 ok) hN hi hln hq
      cases f with
      | next =>
        obtain ⟨σ6, H6, S6, q6⟩ := hsp
        exact end_ S6 fun s7 J7 => ⟨_, _, J7, q6⟩
      | brk =>
        obtain ⟨σ6, H6, S6, q6⟩ := hsp
        exact end_ S6 fun s7 J7 => ⟨_, _, J7, q6⟩
      | cont =>
        obtain ⟨σ6, H6, S6, q6⟩ := hsp
        exact end_ S6 fun s7 J7 => ⟨_, _, J7, q6⟩
      | ret u =>
        obtain ⟨v6, σ6, H6, S6, r6, q6⟩ := hsp
        exact end_ S6 fun s7 J7 => ⟨_, _, _, J7, r6, q6⟩
    | false =>
      obtain ⟨b2, hb2, hyes2, hno2⟩ := hno rfl
      show wpAny _ X.A (handleBy (.ref a) X.env [.ExceptHandler (some (.Name y np2)) none (d₀ :: suite2) pos2]) _ _ _
      refine wpAny_handleBy_cons (codeAny_handlers_test ?_) (by intro q; cases q)
      have LM2 := PySem.W.exm_one (M := model X.prog X.w) (J3.kIn) LT hb2
      refine test hc2 (LM2.here ?_)
      cases b2 with
      | true =>
        refine codeAny_handlers_suite ?_
        refine HandSPX.lands_againZ fl3 fun h4 fl4 up4 => ?_
        have J4 : Inv X pins σ' H' { s' with heap := h4 } := J.landed nb fl4.1 ((up.trans up3).trans up4) os ag
        obtain ⟨oe4, vs4, he4, hz4, hd4⟩ := fl4.there
        have S4 := J4.suite he4 hd4 na nL nF
        refine wpAny_mono ((hsu2 a oe4 cls d (X.pn ++ pins) hz4 ⟨_, hd4⟩).run [] _ _ H' _ S4 (hyes2 rfl a na)) (fun f s6 hsp => ?_) (fun _ _ z => False.elim z)
        cases f with
        | next =>
          obtain ⟨σ6, H6, S6, q6⟩ := hsp
          exact ⟨_, _, S6.unsuite ok, q6⟩
        | brk =>
          obtain ⟨σ6, H6, S6, q6⟩ := hsp
          exact ⟨_, _, S6.unsuite ok, q6⟩
        | cont =>
          obtain ⟨σ6, H6, S6, q6⟩ := hsp
          exact ⟨_, _, S6.unsuite ok, q6⟩
        | ret u =>
          obtain ⟨v6, σ6, H6, S6, r6, q6⟩ := hsp
          exact ⟨_, _, _, S6.unsuite ok, r6, q6⟩
      | false =>
        show wpAny _ X.A (handleBy (.ref a) X.env []) _ _ _
        refine wpAny_handleBy_nil ?_
        obtain ⟨k1, k2, k3, oe, vs, T, oT, ts', he, hz, hd, h1, hr⟩ := id fl3
        unfold PySem.passOn
        refine wpAny_bind (wpAny_field he hd h1 ?_)
        rw [if_neg (show ¬ ((Value.ref T == Value.none) = true) from by simp)]
        have fin : wpAny (model X.prog X.w) X.A (setFlight (.ref a) X.env.frame) (fun _ s4 => wpAny (model X.prog X.w) X.A (throw (.ref a) : Sem Flow) (SP X pins D) X.xe s4) X.xe { s' with heap := h3 } := by
          rw [hf]
          refine HandSPX.setFlight_upZ fl3 fun h4 hh4 up4 => wpAny_throw (tk _ _ ?_)
          exact ⟨a, B, sI, pins, σ', H', cls, d, rfl, J, nb, (up.trans up3).trans up4, .inr (.inr (by rw [hs]; exact hh4)), na, os, ag, hno2 rfl⟩
        first
          | exact wpAny_bind (wpAny_pure (wpAny_bind fin))
          | exact wpAny_bind fin
  · cases f with
    | next =>
      obtain ⟨σ', H', J', q⟩ := hsp
      exact wpAny_execs_nil ⟨σ', H', J'.ofTry ok, q⟩
    | brk =>
      obtain ⟨σ', H', J', q⟩ := hsp
      exact ⟨σ', H', J'.ofTry ok, q⟩
    | cont =>
      obtain ⟨σ', H', J', q⟩ := hsp
      exact ⟨σ', H', J'.ofTry ok, q⟩
    | ret u =>
      obtain ⟨v, σ', H', J', r, q⟩ := hsp
      exact ⟨v, σ', H', J'.ofTry ok, r, q⟩
end
/-! its function of data: as sTry, whose rest is as sTryO -/
def sTry2 (cq : Nat → Option Bool) (i : Nat) (cq2 : Nat → Option Bool) (b s s2 : MS) : MS := fun δ μ => match b δ μ with
  | .ex n ns es δ' μ' => match cq n with
    | some true => (match s (δ'.set i (some (.exc n ns es))) μ' with
      | .nx δ2 μ2 => .nx (δ2.set i none) μ2
      | .bk δ2 μ2 => .bk (δ2.set i none) μ2
      | .ct δ2 μ2 => .ct (δ2.set i none) μ2
      | .rt d μ2 => .rt d μ2
      | _ => .no)
    | some false => (match cq2 n with
      | some true => (match s2 δ' μ' with
        | .ex _ _ _ _ _ => .no
        | o => o)
      | some false => .ex n ns es δ' μ'
      | none => .no)
    | none => .no
  | o => o
theorem sv_try2 {Γ : Gm} {W : WX} {K : PySem.W.Frag} {cv cv2 : Value} {cq cq2 : Nat → Option Bool} {i : Nat} {tb : WX → TS} {ts : TS} {ts2 : Addr → Value → Option Addr → TS} {b s s2 : MS} (hq : ∀ n k, cq n = some k → PySem.W.exmOne K (.ref (Γ.c n)) cv = some k) (hq2 : ∀ n k, cq2 n = some k → PySem.W.exmOne K (.ref (Γ.c n)) cv2 = some k)
    (hb : ∀ W, SV Γ W (tb W) b) (hs : SV Γ W0 ts s) (hs2 : ∀ a cls d, SV Γ W0 (ts2 a cls d) s2) :
    SV Γ W (fun D σ H => tb (wKeep K cv i ts (wOnly K cv2 ts2 W D) D) D σ H) (sTry2 cq i cq2 b s s2) := fun D σ H ⟨ω, δ, μ, hg, he, hw, h⟩ => hb _ D σ H ⟨ω, δ, μ, hg, he, hw, by
  unfold sTry2 at h
  cases eb : b δ μ with
  | nx δ' μ' => rw [eb] at h; exact h
  | rt d μ' => rw [eb] at h; exact h
  | bk δ' μ' => rw [eb] at h; exact h
  | ct δ' μ' => rw [eb] at h; exact h
  | no => rw [eb] at h; exact h
  | ex n ns es δ' μ' =>
    rw [eb] at h
    intro dd σ' ω' H' l w e x
    cases ec : cq n with
    | none =>
      simp only [ec] at h
      exact h.elim
    | some k =>
      simp only [ec] at h
      refine ⟨k, by rw [hg]; exact hq n k ec, fun hk a na => ?_, fun hk => ?_⟩
      · subst hk
        obtain ⟨l2, w2⟩ := w.newB (u := exK (.ref (ω.Γ.c n)) dd a) na
        have r2 : Rp { ω' with B := upd ω'.B a (exK (.ref (ω.Γ.c n)) dd a) } (.ref a) (.exc n ns es) := (x.mono l2).rp (by rw [show ({ ω' with B := upd ω'.B a (exK (.ref (ω.Γ.c n)) dd a) } : Wd).Γ = ω.Γ from l.g]; exact upd_same)
        refine hs _ _ _ ⟨_, _, _, (l.trans l2).g.trans hg, (e.mono l2).set i r2, w2, ?_⟩
        have h : GoS W ω (match s (δ'.set i (some (.exc n ns es))) μ' with
          | .nx δ2 μ2 => .nx (δ2.set i none) μ2
          | .bk δ2 μ2 => .bk (δ2.set i none) μ2
          | .ct δ2 μ2 => .ct (δ2.set i none) μ2
          | .rt d μ2 => .rt d μ2
          | _ => .no) D := h
        have h := GoS.mono h (l.trans l2)
        revert h
        cases s (δ'.set i (some (.exc n ns es))) μ' with
        | nx δ2 μ2 => exact fun h σ3 ω3 H3 l3 w3 e3 => h _ ω3 H3 l3 w3 (e3.unset i)
        | bk δ2 μ2 => exact fun h σ3 ω3 H3 l3 w3 e3 => h _ ω3 H3 l3 w3 (e3.unset i)
        | ct δ2 μ2 => exact fun h σ3 ω3 H3 l3 w3 e3 => h _ ω3 H3 l3 w3 (e3.unset i)
        | rt d μ2 => exact fun h => h
        | ex n ns es δ2 μ2 => exact fun h => h.elim
        | no => exact fun h => h.elim
      · subst hk
        dsimp only at h
        cases ec2 : cq2 n with
        | none =>
          simp only [ec2] at h
          exact h.elim
        | some k2 =>
          simp only [ec2] at h
          refine ⟨k2, by rw [hg]; exact hq2 n k2 ec2, fun hk a na => ?_, fun hk => ?_⟩
          · subst hk
            refine hs2 _ _ _ _ _ _ ⟨ω', δ', μ', l.g.trans hg, e, w, ?_⟩
            have h : GoS W ω (match s2 δ' μ' with
              | .ex _ _ _ _ _ => .no
              | o => o) D := h
            have h := GoS.mono h l
            revert h
            cases s2 δ' μ' with
            | nx δ2 μ2 => exact fun h => h
            | bk δ2 μ2 => exact fun h => h
            | ct δ2 μ2 => exact fun h => h
            | rt d μ2 => exact fun h => h
            | ex n ns es δ2 μ2 => exact fun h => h.elim
            | no => exact fun h => h.elim
          · subst hk
            exact h dd σ' ω' H' l w e x⟩
/-- of two classes apart: the one, not the other -/
def cqTwo (k k2 : Nat) : Nat → Option Bool := fun n => if n = k then some true else if n = k2 then some false else none
theorem cqTwo_ok {K : PySem.W.Frag} {Γ : Gm} {k k2 : Nat} (h1 : PySem.W.exmOne K (.ref (Γ.c k)) (.ref (Γ.c k)) = some true) (h2 : PySem.W.exmOne K (.ref (Γ.c k2)) (.ref (Γ.c k)) = some false) : ∀ n b, cqTwo k k2 n = some b → PySem.W.exmOne K (.ref (Γ.c n)) (.ref (Γ.c k)) = some b := fun n b e => by
  unfold cqTwo at e
  split at e
  · rename_i h
    cases e
    rw [h]
    exact h1
  · split at e
    · rename_i h
      cases e
      rw [h]
      exact h2
    · cases e
end DM

set_option linter.all false
set_option maxRecDepth 100000
set_option maxHeartbeats 4000000
/-! DMJ: a truth value is (is not) True; the greater of two whole numbers. -/
namespace DM
open PySem PySem.Spec PyProof.Rows L2
def rIsB (neg : Bool) : R2 := fun x y H Q => ∃ a b, x = .bl a ∧ y = .bl b ∧ Q (.bl (neg ^^ (a == b))) H
theorem bl_beq (a b : Bool) : (Value.bool a == Value.bool b) = (a == b) := by cases a <;> cases b <;> decide +kernel
theorem op_isB {X : Cx} : OpR X (compareOp .Is) (rIsB false) := by
  intro pins s σ H x y v u Q I rx ry h
  obtain ⟨a, b, rfl, rfl, q⟩ := h
  cases (show v = Value.bool a from rx)
  cases (show u = Value.bool b from ry)
  rw [Bool.false_xor] at q
  exact wpAny_is_plain rfl (fin_bl I q (bl_beq a b).symm)
theorem op_notB {X : Cx} : OpR X (compareOp .IsNot) (rIsB true) := by
  intro pins s σ H x y v u Q I rx ry h
  obtain ⟨a, b, rfl, rfl, q⟩ := h
  cases (show v = Value.bool a from rx)
  cases (show u = Value.bool b from ry)
  rw [Bool.true_xor] at q
  exact wpAny_isNot_plain rfl (fin_bl I q (congrArg not (bl_beq a b).symm))
def oIsB (neg : Bool) (a b : Dt) (μ : Mem) : R Dt := match a, b with
  | .bl x, .bl y => .ok (.bl (neg ^^ (x == y))) μ
  | _, _ => .no
theorem ro_isB {Γ : Gm} {neg : Bool} : RO Γ (rIsB neg) (oIsB neg) := fun W ω σ μ H x y a b Q hg w ra rb h => by
  unfold oIsB at h
  split at h
  · cases ra
    cases rb
    exact ⟨_, _, rfl, rfl, h.ok w (.bl _)⟩
  · exact h.elim
theorem oIsB_bl {neg x y : Bool} {μ : Mem} : oIsB neg (.bl x) (.bl y) μ = .ok (.bl (neg ^^ (x == y))) μ := rfl
def rMax : List V → Hp → VK → Prop := fun xs H Q => ∃ i j, xs = [.int i, .int j] ∧ Q (.int (if j > i then j else i)) H
theorem k_max {X : Cx} (hc : X.calm = true) : CallR X (.builtin "max") rMax := call_max2 hc
def cMax (ds : List Dt) (μ : Mem) : R Dt := match ds with
  | [.int i, .int j] => .ok (.int (if j > i then j else i)) μ
  | _ => .no
theorem rc_max {Γ : Gm} : RC Γ rMax cMax := fun W ω σ μ H xs ds Q hg w r h => by
  unfold cMax at h
  split at h
  · obtain ⟨v, u, rfl, r1, r2⟩ := r.two
    cases r1
    cases r2
    exact ⟨_, _, rfl, h.ok w (.int _)⟩
  · exact h.elim
theorem cMax_int {i j : Int} {μ : Mem} : cMax [.int i, .int j] μ = .ok (.int (if j > i then j else i)) μ := rfl
end DM

set_option linter.all false
set_option maxRecDepth 100000
set_option maxHeartbeats 4000000
/-! DS: the steps' functions at given data, for simp: a plain law is shown by unfolding. -/
namespace DM
open PySem PySem.Spec PyProof.Rows L2
open Classical
def tstR (x : Dt) (μ1 : Mem) : R Bool := match x with
  | .bl k => .ok k μ1
  | _ => .no
section
variable {i n m : Nat} {d : Dt} {f g : Dt → Dt → Mem → R Dt} {fu : Dt → Mem → R Dt} {fc : List Dt → Mem → R Dt} {fm : Dt → List Dt → Mem → R Dt} {a b c : MX} {as bs ks : MA} {T : String} {t u : MT} {fs : Dt → Option Int → Option Int → Mem → R Dt} {lo hi : Env → Mem → R (Option Int)} {s v : MS} {tg : MG} {it : MI} {idx : List Nat} {md : List Dt} {δ : Env} {μ : Mem}
@[simp] theorem mV_ap : mV i δ μ = (match δ[i]? with | some (some d) => .ok d μ | _ => .no) := rfl
@[simp] theorem mC_ap : mC d δ μ = .ok d μ := rfl
@[simp] theorem mOp_ap : mOp f a b δ μ = (a δ μ).bind fun x μ1 => (b δ μ1).bind fun y μ2 => f x y μ2 := rfl
@[simp] theorem mUn_ap : mUn fu a δ μ = (a δ μ).bind fu := rfl
@[simp] theorem mNil_ap : mNil δ μ = .ok [] μ := rfl
@[simp] theorem mCons_ap : mCons a as δ μ = (a δ μ).bind fun x μ1 => (as δ μ1).bind fun xs μ2 => .ok (x :: xs) μ2 := rfl
@[simp] theorem mLst_ap : mLst as δ μ = (as δ μ).bind fun ds μ1 => if ds.length ≤ 1000000 then .ok (.lst ds) μ1 else .no := rfl
@[simp] theorem mTup_ap : mTup as δ μ = (as δ μ).bind fun ds μ1 => if ds.length ≤ 1000000 then .ok (.tup ds) μ1 else .no := rfl
@[simp] theorem mNew_ap : mNew as δ μ = (as δ μ).bind fun ds μ1 => if ds.length ≤ 1000000 then .ok (.ptr μ1.length) (μ1 ++ [.lst ds]) else .no := rfl
@[simp] theorem mCB_ap : mCB fc as δ μ = (as δ μ).bind fc := rfl
@[simp] theorem mBM_ap : mBM T fm a as δ μ = (a δ μ).bind fun x μ1 => if tyM T x μ1 = true then (as δ μ1).bind fun ds μ2 => fm x ds μ2 else .no := rfl
@[simp] theorem mAnd_ap : mAnd t u δ μ = (t δ μ).bind fun k μ1 => if k = true then u δ μ1 else .ok false μ1 := rfl
@[simp] theorem mOr_ap : mOr t u δ μ = (t δ μ).bind fun k μ1 => if k = true then .ok true μ1 else u δ μ1 := rfl
@[simp] theorem mNot_ap : mNot t δ μ = (t δ μ).bind fun k μ1 => .ok (!k) μ1 := rfl
@[simp] theorem mYes_ap : mYes δ μ = .ok true μ := rfl
@[simp] theorem mB_ap : mB t δ μ = (t δ μ).bind fun k μ1 => .ok (.bl k) μ1 := rfl
@[simp] theorem mIf_ap : mIf t a b δ μ = (t δ μ).bind fun k μ1 => if k = true then a δ μ1 else b δ μ1 := rfl
@[simp] theorem mSl_ap : mSl fs a lo hi δ μ = (a δ μ).bind fun x μ1 => (lo δ μ1).bind fun l μ2 => (hi δ μ2).bind fun h μ3 => fs x l h μ3 := rfl
@[simp] theorem mNoPart_ap : mNoPart δ μ = .ok none μ := rfl
@[simp] theorem sNext_ap : sNext δ μ = .nx δ μ := rfl
@[simp] theorem sSeq_ap : sSeq s v δ μ = (s δ μ).thn v := rfl
@[simp] theorem sRet_ap : sRet a δ μ = (a δ μ).thn δ fun d μ1 => .rt d μ1 := rfl
@[simp] theorem sRetN_ap : sRetN δ μ = .rt .non μ := rfl
@[simp] theorem sDrop_ap : sDrop a δ μ = (a δ μ).thn δ fun _ μ1 => .nx δ μ1 := rfl
@[simp] theorem sIf_ap : sIf t s v δ μ = (t δ μ).thn δ fun k μ1 => if k = true then s δ μ1 else v δ μ1 := rfl
@[simp] theorem gSet_ap : gSet i d δ μ = some (δ.set i (some d)) := rfl
@[simp] theorem sAsg_name : sAsg a (gSet i) δ μ = (a δ μ).thn δ fun d μ1 => .nx (δ.set i (some d)) μ1 := rfl
@[simp] theorem sFor_ap : sFor it tg s δ μ = (it δ μ).thn δ fun z μ1 => forL tg s z.2 z.1 δ μ1 := rfl
@[simp] theorem sSub_ap : sSub a b c δ μ = (a δ μ).thn δ fun v μ1 => (b δ μ1).thn δ fun ov μ2 => (c δ μ2).thn δ fun iv μ3 => stSub δ v ov iv μ3 := rfl
@[simp] theorem mCall_ap : mCall n m fc idx md as ks δ μ = (as δ μ).bind fun ds μ1 => (ks δ μ1).bind fun es μ2 => if ds.length = n ∧ es.length = m then fc (pm idx (ds ++ md ++ es)) μ2 else .no := rfl
@[simp] theorem miList_ap : miList a δ μ = (a δ μ).bind srcL := rfl
@[simp] theorem miTup_ap : miTup a δ μ = (a δ μ).bind srcT := rfl
@[simp] theorem miStr_ap : miStr a δ μ = (a δ μ).bind srcS := rfl
@[simp] theorem miRng1_ap : miRng1 as δ μ = (as δ μ).bind srcR1 := rfl
@[simp] theorem miRng2_ap : miRng2 as δ μ = (as δ μ).bind srcR2 := rfl
@[simp] theorem miZip_ap : miZip as δ μ = (as δ μ).bind srcZ := rfl
@[simp] theorem miEnum_ap : miEnum as δ μ = (as δ μ).bind srcE := rfl
@[simp] theorem mTest_ap : mTest a δ μ = (a δ μ).bind tstR := rfl
@[simp] theorem tst_bl {k : Bool} : tstR (.bl k) μ = .ok k μ := rfl
end
section
variable {β γ : Type} {a : β} {μ μ1 : Mem} {f : β → Mem → R γ} {g : β → Mem → O} {n : Nat} {ns : List Str} {es ds : List Dt} {δ : Env} {u : MS} {d e : Dt} {i j : Int} {x y : Str} {k l : Bool}
@[simp] theorem bind_ok : (R.ok a μ).bind f = f a μ := rfl
@[simp] theorem bind_ex : (R.ex n ns es μ : R β).bind f = .ex n ns es μ := rfl
@[simp] theorem bind_no : (R.no : R β).bind f = .no := rfl
@[simp] theorem thn_ok : (R.ok a μ).thn δ g = g a μ := rfl
@[simp] theorem thn_ex : (R.ex n ns es μ : R β).thn δ g = .ex n ns es δ μ := rfl
@[simp] theorem thn_no : (R.no : R β).thn δ g = .no := rfl
@[simp] theorem Othn_nx : (O.nx δ μ).thn u = u δ μ := rfl
@[simp] theorem Othn_rt : (O.rt d μ).thn u = .rt d μ := rfl
@[simp] theorem Othn_ex : (O.ex n ns es δ μ).thn u = .ex n ns es δ μ := rfl
@[simp] theorem Othn_bk : (O.bk δ μ).thn u = .bk δ μ := rfl
@[simp] theorem Othn_ct : (O.ct δ μ).thn u = .ct δ μ := rfl
@[simp] theorem noX_ok : (R.ok a μ).noX = .ok a μ := rfl
@[simp] theorem oAdd_int : oAdd (.int i) (.int j) μ = .ok (.int (i + j)) μ := rfl
theorem oAdd_str (h : x.length + y.length ≤ 10000000) : oAdd (.str x) (.str y) μ = .ok (.str (x ++ y)) μ := if_pos h
theorem oAdd_lst (h : ds.length + es.length ≤ 1000000) : oAdd (.lst ds) (.lst es) μ = .ok (.lst (ds ++ es)) μ := if_pos h
@[simp] theorem oSub_int : oSub (.int i) (.int j) μ = .ok (.int (i - j)) μ := rfl
theorem oMul_int (h : CMulW i j) : oMul (.int i) (.int j) μ = .ok (.int (i * j)) μ := if_pos h
theorem oMul_str (h : -1000000000 ≤ i ∧ i ≤ 1000000000 ∧ x.length * i.toNat ≤ 10000000) : oMul (.str x) (.int i) μ = .ok (.str (repS x i)) μ := if_pos h
theorem oMul_lst (h : -1000000000 ≤ i ∧ i ≤ 1000000000 ∧ ds.length * i.toNat ≤ 1000000) : oMul (.lst ds) (.int i) μ = .ok (.lst (List.replicate i.toNat ds).flatten) μ := if_pos h
theorem oMod_int (h : j ≠ 0) : oMod (.int i) (.int j) μ = .ok (.int (i.fmod j)) μ := if_pos h
theorem oFdiv_int (h : CDivN i j) : oFdiv (.int i) (.int j) μ = .ok (.int (i.fdiv j)) μ := if_pos h
theorem oPow_int (h : CPow i j) : oPow (.int i) (.int j) μ = .ok (.int (i ^ j.toNat)) μ := if_pos h
@[simp] theorem oLt_int : oLt (.int i) (.int j) μ = .ok (.bl (decide (i < j))) μ := rfl
@[simp] theorem oLe_int : oLe (.int i) (.int j) μ = .ok (.bl (decide (i ≤ j))) μ := rfl
@[simp] theorem oGt_int : oGt (.int i) (.int j) μ = .ok (.bl (decide (j < i))) μ := rfl
@[simp] theorem oGe_int : oGe (.int i) (.int j) μ = .ok (.bl (decide (j ≤ i))) μ := rfl
@[simp] theorem oIsN_non : oIsN d .non μ = .ok (.bl (isNon d)) μ := rfl
@[simp] theorem oNotN_non : oNotN d .non μ = .ok (.bl (!isNon d)) μ := rfl
@[simp] theorem cLen_lst : cLen [.lst ds] μ = .ok (.int ds.length) μ := rfl
@[simp] theorem cLen_tup : cLen [.tup ds] μ = .ok (.int ds.length) μ := rfl
@[simp] theorem cLen_scr : cLen [.scr ds] μ = .ok (.int ds.length) μ := rfl
theorem cLen_str (h : x.length ≤ 10000000) : cLen [.str x] μ = .ok (.int x.length) μ := if_pos h
@[simp] theorem cInt_int : cInt [.int i] μ = .ok (.int i) μ := rfl
@[simp] theorem cInt_bl : cInt [.bl k] μ = .ok (.int (if k then 1 else 0)) μ := rfl
theorem cAll_map {bs : List Bool} : cAll [.lst (bs.map Dt.bl)] μ = .ok (.bl (bs.all id)) μ := by
  have e : (asL μ (.lst (bs.map Dt.bl))).bind asB = some bs := by
    show (some (bs.map Dt.bl)).bind asB = some bs
    rw [Option.bind_some, asB_map]
  unfold cAll
  simp only [e]
theorem oEq_str : oEq (.str x) (.str y) μ = .ok (.bl (x == y)) μ := by
  simp [oEq, toPM, PyData.eqv]
theorem oNe_str : oNe (.str x) (.str y) μ = .ok (.bl (!(x == y))) μ := by
  simp [oNe, toPM, PyData.eqv]
/-! ### loops -/
theorem forL_run {tg : MG} {body : MS} {ds : List Dt} {δ : Env} {μ : Mem} (P : Nat → Env → Mem → Prop) (h0 : P 0 δ μ)
    (hs : ∀ i d δ μ, ds[i]? = some d → P i δ μ → ∃ δ1 δ' μ', tg d δ μ = some δ1 ∧ body δ1 μ = .nx δ' μ' ∧ P (i + 1) δ' μ') : ∃ δ' μ', forL tg body none ds δ μ = .nx δ' μ' ∧ P ds.length δ' μ' := by
  induction ds generalizing P δ μ with
  | nil => exact ⟨δ, μ, by simp [forL], h0⟩
  | cons d ds ih =>
    obtain ⟨δ1, δ', μ', e1, e2, p⟩ := hs 0 d δ μ rfl h0
    obtain ⟨δ2, μ2, e3, p2⟩ := ih (fun i => P (i + 1)) p fun i d δ μ h => hs (i + 1) d δ μ (by simpa using h)
    exact ⟨δ2, μ2, by simp [forL, e1, e2, e3], p2⟩
/-- .. each of whose turns may return what Z says -/
theorem forL_ret {tg : MG} {body : MS} {ds : List Dt} {δ : Env} {μ : Mem} (P : Nat → Env → Mem → Prop) (Z : Dt → Mem → Prop) (h0 : P 0 δ μ)
    (hs : ∀ i d δ μ, ds[i]? = some d → P i δ μ → ∃ δ1, tg d δ μ = some δ1 ∧ ((∃ δ' μ', body δ1 μ = .nx δ' μ' ∧ P (i + 1) δ' μ') ∨ ∃ r μ', body δ1 μ = .rt r μ' ∧ Z r μ')) :
    (∃ δ' μ', forL tg body none ds δ μ = .nx δ' μ' ∧ P ds.length δ' μ') ∨ ∃ r μ', forL tg body none ds δ μ = .rt r μ' ∧ Z r μ' := by
  induction ds generalizing P δ μ with
  | nil => exact .inl ⟨δ, μ, by simp [forL], h0⟩
  | cons d ds ih =>
    obtain ⟨δ1, e1, h | h⟩ := hs 0 d δ μ rfl h0
    · obtain ⟨δ', μ', e2, p⟩ := h
      rcases ih (fun i => P (i + 1)) p fun i d δ μ h => hs (i + 1) d δ μ (by simpa using h) with ⟨δ2, μ2, e3, p2⟩ | ⟨r, μ2, e3, p2⟩
      · exact .inl ⟨δ2, μ2, by simp [forL, e1, e2, e3], p2⟩
      · exact .inr ⟨r, μ2, by simp [forL, e1, e2, e3], p2⟩
    · obtain ⟨r, μ', e2, p⟩ := h
      exact .inr ⟨r, μ', by simp [forL, e1, e2], p⟩
/-- a comprehension that changes nothing -/
theorem lcL_pure {tg : MG} {nt : MT} {me : MX} {δ : Env} {ds : List Dt} {μ : Mem} (p : Dt → Bool) (F : Dt → Dt)
    (h : ∀ d, d ∈ ds → ∃ δ1, tg d δ μ = some δ1 ∧ nt δ1 μ = .ok (p d) μ ∧ (p d = true → me δ1 μ = .ok (F d) μ)) : lcL tg nt me δ none ds μ = .ok ((ds.filter p).map F) μ := by
  induction ds with
  | nil => simp [lcL]
  | cons d ds ih =>
    obtain ⟨δ1, e1, e2, e3⟩ := h d List.mem_cons_self
    have ih := ih fun d hd => h d (List.mem_cons_of_mem _ hd)
    cases hp : p d with
    | true =>
      have e3 := e3 hp
      simp [lcL, e1, e2, hp, e3, ih]
    | false => simp [lcL, e1, e2, hp, ih]
theorem lcL_map {tg : MG} {me : MX} {δ : Env} {ds : List Dt} {μ : Mem} (F : Dt → Dt) (h : ∀ d, d ∈ ds → ∃ δ1, tg d δ μ = some δ1 ∧ me δ1 μ = .ok (F d) μ) : lcL tg mYes me δ none ds μ = .ok (ds.map F) μ := by
  have := lcL_pure (nt := mYes) (me := me) (tg := tg) (δ := δ) (ds := ds) (μ := μ) (fun _ => true) F fun d hd => let ⟨δ1, e1, e2⟩ := h d hd; ⟨δ1, e1, rfl, fun _ => e2⟩
  rwa [List.filter_eq_self.mpr fun _ _ => rfl] at this
end
end DM

set_option linter.all false
set_option maxRecDepth 100000
set_option maxHeartbeats 4000000
/-! TX: texts as lists of signs: split, join, count, rpartition by one sign. -/
namespace TX
open PySem PySem.Spec PyProof.Rows L2 DM TL
/-- a list of signs as a text -/
def mk (l : List Nat) : Str := ⟨l.toArray⟩
theorem tl_mk' (l : List Nat) : tl (mk l) = l := rfl
theorem mk_tl' (x : Str) : mk (tl x) = x := mk_tl x
theorem mk_inj {a b : List Nat} (h : mk a = mk b) : a = b := congrArg tl h
theorem len_mk (l : List Nat) : (mk l).length = l.length := by rw [len_tl, tl_mk']
/-- parts between the signs c -/
def splitN (c : Nat) : List Nat → List (List Nat)
  | [] => [[]]
  | x :: r => if x = c then [] :: splitN c r else match splitN c r with
    | [] => [[x]]
    | p :: ps => (x :: p) :: ps
theorem splitN_ne (c : Nat) : ∀ l, splitN c l ≠ []
  | [] => by simp [splitN]
  | x :: r => by
    rw [splitN]
    split
    · simp
    · split <;> simp
theorem spl_one (c : Nat) : ∀ (l acc : List Nat), spl [c] 0 acc l = match splitN c l with
    | [] => []
    | p :: ps => (acc ++ p) :: ps
  | [], acc => by simp [spl_nil, splitN]
  | x :: r, acc => by
    by_cases h : x = c
    · subst h
      have hp : pre [x] (x :: r) = true := by simp [pre]
      rw [spl_hit hp, splitN, if_pos rfl]
      show acc :: spl [x] 0 [] r = (acc ++ []) :: splitN x r
      rw [spl_one x r [], List.append_nil]
      cases e : splitN x r with
      | nil => exact absurd e (splitN_ne _ _)
      | cons p ps => rfl
    · have hp : pre [c] (x :: r) = false := pre_of_head [] r h
      rw [spl_miss hp, spl_one c r, splitN, if_neg h]
      cases e : splitN c r with
      | nil => exact absurd e (splitN_ne _ _)
      | cons p ps => simp
theorem split_one {y : Str} {c : Nat} (hy : tl y = [c]) (hc : c < 256) (x : Str) : Txt.split x y = (splitN c (tl x)).map mk := by
  apply map_tl_inj
  have hk : y.cps.all (· < 256) = true := by
    rw [← Array.all_toList]
    show (tl y).all _ = true
    rw [hy]
    simp [hc]
  rw [split_spl x y (by rw [hy]; simp) (kind_ok hk), hy, spl_one, List.map_map]
  have : (tl ∘ mk) = id := rfl
  rw [this, List.map_id]
  cases e : splitN c (tl x) with
  | nil => exact absurd e (splitN_ne _ _)
  | cons p ps => simp
theorem split_count {y : Str} {c : Nat} (hy : tl y = [c]) (hc : c < 256) (x : Str) : ((Txt.split x y).length : Int) = Txt.count x y + 1 := by
  have hk : y.cps.all (· < 256) = true := by
    rw [← Array.all_toList]
    show (tl y).all _ = true
    rw [hy]
    simp [hc]
  have hl : y.length = 1 := by rw [len_tl, hy]; rfl
  unfold Txt.split Txt.count
  by_cases h1 : (decide (x.length < y.length) || decide (Builtin.Str.strKind x < Builtin.Str.strKind y)) = true
  · rw [if_pos h1]
    have hlt : x.length < y.length := by
      simp only [Bool.or_eq_true, decide_eq_true_eq] at h1
      rcases h1 with h | h
      · exact h
      · exact absurd h (kind_ok hk)
    obtain ⟨f, g, hn⟩ := PySem.StrLaws.occ_tight x y (len1 (by rw [hy]; simp))
    cases ho : Builtin.Str.occurrences x y 0 x.length (x.length + 1) with
    | nil => rfl
    | cons k r =>
      rw [ho] at g
      have hc : k + y.length ≤ x.length := g.2.1.1
      omega
  · rw [if_neg h1]
    by_cases h2 : (Builtin.Str.occurrences x y 0 x.length (x.length + 1)).isEmpty = true
    · rw [if_pos h2, List.isEmpty_iff.mp h2]
      rfl
    · rw [if_neg h2, PyProof.Rows.len_partsBetween]
      simp
theorem splitN_len (c : Nat) : ∀ (l : List Nat) (p : List Nat), p ∈ splitN c l → p.length ≤ l.length
  | [], p, h => by
    simp [splitN] at h
    simp [h]
  | x :: r, p, h => by
    rw [splitN] at h
    split at h
    · rcases List.mem_cons.mp h with rfl | h
      · simp
      · exact Nat.le_succ_of_le (splitN_len c r p h)
    · have ih := splitN_len c r
      revert h ih
      cases e : splitN c r with
      | nil => exact absurd e (splitN_ne _ _)
      | cons q ps =>
        intro h ih
        rcases List.mem_cons.mp h with rfl | h
        · have := ih q (List.mem_cons_self ..)
          simp
          exact this
        · exact Nat.le_succ_of_le (ih p (List.mem_cons_of_mem _ h))
theorem splitN_count (c : Nat) : ∀ l : List Nat, (splitN c l).length ≤ l.length + 1
  | [] => by simp [splitN]
  | x :: r => by
    have ih := splitN_count c r
    rw [splitN]
    split
    · simp
      omega
    · revert ih
      cases e : splitN c r with
      | nil => exact absurd e (splitN_ne _ _)
      | cons q ps =>
        intro ih
        simp at ih ⊢
        omega
theorem split_len {y : Str} {c : Nat} (hy : tl y = [c]) (hc : c < 256) {x p : Str} (h : p ∈ Txt.split x y) : p.length ≤ x.length := by
  rw [split_one hy hc] at h
  obtain ⟨q, hq, rfl⟩ := List.mem_map.mp h
  rw [len_mk, len_tl]
  exact splitN_len c _ q hq
theorem split_many {y : Str} {c : Nat} (hy : tl y = [c]) (hc : c < 256) {x : Str} : (Txt.split x y).length ≤ x.length + 1 := by
  rw [split_one hy hc, List.length_map, len_tl]
  exact splitN_count c _
theorem sum_take_le : ∀ (l : List Nat) (i : Nat), (l.take i).sum ≤ l.sum
  | [], i => by simp
  | a :: l, 0 => by simp
  | a :: l, i + 1 => by
    have := sum_take_le l i
    rw [List.take_succ_cons, List.sum_cons, List.sum_cons]
    omega
theorem splitN_sum (c : Nat) : ∀ l : List Nat, ((splitN c l).map List.length).sum ≤ l.length
  | [] => by simp [splitN]
  | x :: r => by
    have ih := splitN_sum c r
    rw [splitN]
    split
    · simp
      omega
    · revert ih
      cases e : splitN c r with
      | nil => exact absurd e (splitN_ne _ _)
      | cons q ps =>
        intro ih
        simp at ih ⊢
        omega
theorem sum_split {y : Str} {c : Nat} (hy : tl y = [c]) (hc : c < 256) (x : Str) (i : Nat) : (((Txt.split x y).take i).map (·.length)).sum ≤ x.length := by
  rw [List.map_take]
  refine Nat.le_trans (sum_take_le _ i) ?_
  rw [split_one hy hc, List.map_map]
  have : ((fun (s : Str) => s.length) ∘ mk) = List.length := by
    funext l
    exact len_mk l
  rw [this, len_tl]
  exact splitN_sum c _
/-- join -/
theorem splitN_free {c : Nat} : ∀ {p : List Nat}, c ∉ p → splitN c p = [p]
  | [], _ => rfl
  | x :: r, h => by
    have h1 : x ≠ c := fun e => h (by rw [e]; exact List.mem_cons_self ..)
    have h2 : c ∉ r := fun e => h (List.mem_cons_of_mem _ e)
    rw [splitN, if_neg h1, splitN_free h2]
theorem splitN_app {c : Nat} : ∀ {p : List Nat} (r : List Nat), c ∉ p → splitN c (p ++ c :: r) = p :: splitN c r
  | [], r, _ => by simp [splitN]
  | x :: p, r, h => by
    have h1 : x ≠ c := fun e => h (by rw [e]; exact List.mem_cons_self ..)
    have h2 : c ∉ p := fun e => h (List.mem_cons_of_mem _ e)
    rw [List.cons_append, splitN, if_neg h1, splitN_app r h2]
theorem splitN_free_all {c : Nat} : ∀ (l : List Nat) (p : List Nat), p ∈ splitN c l → c ∉ p
  | [], p, h => by
    simp [splitN] at h
    simp [h]
  | x :: r, p, h => by
    rw [splitN] at h
    split at h
    · rcases List.mem_cons.mp h with rfl | h
      · simp
      · exact splitN_free_all r p h
    · rename_i hx
      have ih := splitN_free_all (c := c) r
      revert h ih
      cases e : splitN c r with
      | nil => exact absurd e (splitN_ne _ _)
      | cons q ps =>
        intro h ih
        rcases List.mem_cons.mp h with rfl | h
        · have := ih q (List.mem_cons_self ..)
          simp
          exact ⟨fun z => hx z.symm, this⟩
        · exact ih p (List.mem_cons_of_mem _ h)
theorem splitN_join {c : Nat} : ∀ {parts : List (List Nat)}, parts ≠ [] → (∀ p ∈ parts, c ∉ p) → splitN c (joinL [c] parts) = parts
  | [], h, _ => absurd rfl h
  | [p], _, h => by
    show splitN c p = [p]
    exact splitN_free (h p (List.mem_cons_self ..))
  | p :: q :: r, _, h => by
    show splitN c (p ++ c :: joinL [c] (q :: r)) = _
    rw [splitN_app _ (h p (List.mem_cons_self ..)), splitN_join (by simp) fun x hx => h x (List.mem_cons_of_mem _ hx)]
theorem join_splitN (c : Nat) : ∀ l : List Nat, joinL [c] (splitN c l) = l
  | [] => rfl
  | x :: r => by
    have ih := join_splitN c r
    rw [splitN]
    split
    · rename_i hx
      subst hx
      revert ih
      cases e : splitN x r with
      | nil => exact absurd e (splitN_ne _ _)
      | cons q ps =>
        intro ih
        show x :: joinL [x] (q :: ps) = x :: r
        rw [ih]
    · revert ih
      cases e : splitN c r with
      | nil => exact absurd e (splitN_ne _ _)
      | cons q ps =>
        intro ih
        cases ps with
        | nil =>
          show x :: q = x :: r
          rw [show q = r from ih]
        | cons q2 ps =>
          show x :: (q ++ c :: joinL [c] (q2 :: ps)) = x :: r
          rw [← ih]
          rfl
theorem tl_joinT (y : Str) (parts : List Str) : tl (Txt.join y parts) = joinL (tl y) (parts.map tl) := by rw [join_eq, tl_join]
theorem join_mk {y : Str} {c : Nat} (hy : tl y = [c]) (ps : List (List Nat)) : Txt.join y (ps.map mk) = mk (joinL [c] ps) := by
  apply ext_tl
  rw [tl_joinT, hy, List.map_map]
  have : (tl ∘ mk) = id := rfl
  rw [this, List.map_id]
  rfl
theorem joinL_len (c : Nat) : ∀ ps : List (List Nat), (joinL [c] ps).length ≤ (ps.map List.length).sum + ps.length
  | [] => by simp [joinL]
  | [p] => by simp [joinL]
  | p :: q :: r => by
    have ih := joinL_len c (q :: r)
    show (p ++ c :: joinL [c] (q :: r)).length ≤ _
    simp at ih ⊢
    omega
theorem at_one {x y : Str} {c : Nat} (hy : tl y = [c]) (i : Nat) : PySem.StrLaws.At x y x.length i ↔ (tl x)[i]? = some c := by
  rw [at_iff (by rw [hy]; simp), hy]
  unfold pre
  rw [show ([c] : List Nat).length = 1 from rfl]
  constructor
  · intro h
    have h' := beq_iff_eq.mp h
    cases e : (tl x).drop i with
    | nil => rw [e] at h'; cases h'
    | cons z r =>
      rw [e] at h'
      have hz : z = c := by simpa using h'
      subst hz
      have : ((tl x).drop i)[0]? = some z := by rw [e]; rfl
      rwa [List.getElem?_drop, Nat.add_zero] at this
  · intro h
    have : ((tl x).drop i)[0]? = some c := by rwa [List.getElem?_drop, Nat.add_zero]
    cases e : (tl x).drop i with
    | nil => rw [e] at this; cases this
    | cons z r =>
      rw [e] at this
      have hz : z = c := by simpa using this
      subst hz
      simp
theorem rpart_none {x y : Str} {c : Nat} (hy : tl y = [c]) (h : c ∉ tl x) : Txt.rpartition x y = (Str.empty, Str.empty, x) := by
  unfold Txt.rpartition
  rcases PySem.StrLaws.last_spec x y with ⟨e, _⟩ | ⟨i, e, a, _⟩
  · rw [e]
  · exact absurd (List.mem_of_getElem? ((at_one hy i).mp a)) h
theorem rpart_some {x y : Str} {c : Nat} {a b : List Nat} (hy : tl y = [c]) (hx : tl x = a ++ c :: b) (h : c ∉ b) : Txt.rpartition x y = (mk a, y, mk b) := by
  unfold Txt.rpartition
  have hl : y.length = 1 := by rw [len_tl, hy]; rfl
  have ha : PySem.StrLaws.At x y x.length a.length := by
    rw [at_one hy, hx]
    simp
  rcases PySem.StrLaws.last_spec x y with ⟨e, n⟩ | ⟨i, e, at1, n⟩
  · exact absurd ha (n _)
  · have hi : i = a.length := by
      rcases Nat.lt_trichotomy i a.length with l | l | l
      · exact absurd ha (n _ l)
      · exact l
      · exfalso
        rw [at_one hy, hx, List.getElem?_append_right (Nat.le_of_lt l)] at at1
        obtain ⟨k, hk⟩ : ∃ k, i - a.length = k + 1 := ⟨i - a.length - 1, by omega⟩
        rw [hk, List.getElem?_cons_succ] at at1
        exact h (List.mem_of_getElem? at1)
    rw [e]
    subst hi
    show (Builtin.Str.strSub x 0 a.length, y, Builtin.Str.strSub x (a.length + y.length) x.length) = _
    have e1 : Builtin.Str.strSub x 0 a.length = mk a := by
      apply ext_tl
      rw [tl_strSub, hx]
      show ((a ++ c :: b).drop 0).take (a.length - 0) = a
      simp
    have e2 : Builtin.Str.strSub x (a.length + y.length) x.length = mk b := by
      apply ext_tl
      rw [tl_strSub_end, hx, hl]
      show (a ++ c :: b).drop (a.length + 1) = b
      simp
    rw [e1, e2]
theorem cutD_take {α : Type} (l : List α) (n : Nat) : DM.cutD l none (some (n : Int)) = l.take n := by
  unfold DM.cutD
  rw [HT.sIx_none, HT.sIx_nat, List.drop_zero, Nat.sub_zero]
  by_cases h : n ≤ l.length
  · rw [Nat.min_eq_left h]
  · rw [Nat.min_eq_right (by omega), List.take_length, List.take_of_length_le (by omega)]
theorem cutS_len (z : Str) (lo hi : Option Int) : (cutS z lo hi).length ≤ z.length := by
  unfold cutS
  show (List.toArray _).size ≤ z.length
  rw [List.size_toArray, List.length_take, List.length_drop]
  have : z.cps.toList.length = z.length := (len_tl z).symm
  omega
theorem add_len (x y : Str) : (x ++ y).length = x.length + y.length := by rw [len_tl, tl_append, List.length_append, ← len_tl, ← len_tl]
end TX

set_option linter.all false
set_option maxRecDepth 100000
set_option maxHeartbeats 4000000
/-! LM: the laws' drawing, as functions. -/
namespace LM
open PySem PySem.Spec PyProof.Rows L2 DM TL TX
/-- draws, one behind the other -/
def drawL {α β : Type} (f : α → Int → β × Int) : List α → Int → List β × Int
  | [], n => ([], n)
  | x :: r, n => ((f x n).1 :: (drawL f r (f x n).2).1, (drawL f r (f x n).2).2)
theorem drawL_take {α β : Type} (f : α → Int → β × Int) : ∀ (l : List α) (i : Nat) (x : α) (n : Int), l[i]? = some x →
    drawL f (l.take (i + 1)) n = ((drawL f (l.take i) n).1 ++ [(f x (drawL f (l.take i) n).2).1], (f x (drawL f (l.take i) n).2).2)
  | [], i, x, n, h => by simp at h
  | y :: r, 0, x, n, h => by
    simp at h
    subst h
    rfl
  | y :: r, i + 1, x, n, h => by
    rw [List.getElem?_cons_succ] at h
    have ih := drawL_take f r i x (f y n).2 h
    show (_, _) = _
    rw [show (y :: r).take (i + 1) = y :: r.take i from rfl]
    simp only [drawL, List.take_succ_cons, ih]
    rfl
theorem drawL_len {α β : Type} (f : α → Int → β × Int) : ∀ (l : List α) (n : Int), (drawL f l n).1.length = l.length
  | [], _ => rfl
  | x :: r, n => congrArg Nat.succ (drawL_len f r (f x n).2)
theorem drawL_all {α β : Type} {f : α → Int → β × Int} {P : β → Prop} (h : ∀ x n, P (f x n).1) : ∀ (l : List α) (n : Int) (y : β), y ∈ (drawL f l n).1 → P y
  | [], n, y, hy => by simp [drawL] at hy
  | x :: r, n, y, hy => by
    rcases List.mem_cons.mp hy with e | hy
    · rw [e]
      exact h x n
    · exact drawL_all h r _ y hy
/-- a comprehension that draws: N the store by the pile -/
theorem lcL_drawL {tg : MG} {me : MX} {δ : DM.Env} {β : Type} (f : Dt → Int → β × Int) (F : β → Dt) (N : Int → Mem) : ∀ {ds : List Dt} (n : Int),
    (∀ d, d ∈ ds → ∀ m, ∃ δ1, tg d δ (N m) = some δ1 ∧ me δ1 (N m) = .ok (F (f d m).1) (N (f d m).2)) → lcL tg mYes me δ none ds (N n) = .ok ((drawL f ds n).1.map F) (N (drawL f ds n).2)
  | [], n, _ => by simp [lcL, drawL]
  | d :: ds, n, h => by
    obtain ⟨δ1, e1, e2⟩ := h d List.mem_cons_self n
    have ih := lcL_drawL (tg := tg) (me := me) (δ := δ) f F N (ds := ds) (f d n).2 fun d hd => h d (List.mem_cons_of_mem _ hd)
    simp [lcL, e1, e2, ih, drawL]
def mixedI (c k : Int) : Int :=
  let n1 := (c.fmod 2147483647 * 48271 + k * 69621 + 1048583).fmod 2147483629
  let n2 := (n1 * n1).fmod 2147483587
  (n2 * (n2 + 2)).fmod 2147483579
theorem fmod_lt {a b : Int} (h : 0 < b) : 0 ≤ a.fmod b ∧ a.fmod b < b := by
  rw [Int.fmod_eq_emod_of_nonneg _ (Int.le_of_lt h)]
  exact ⟨Int.emod_nonneg _ (by omega), Int.emod_lt_of_pos _ h⟩
theorem mixed_lt (c k : Int) : 0 ≤ mixedI c k ∧ mixedI c k < 2147483579 := fmod_lt (by decide)
theorem cmw {i j : Int} (a b : Nat) (h1 : i.natAbs < 2 ^ a) (h2 : j.natAbs < 2 ^ b) (ha : 0 < a := by decide) (hb : 0 < b := by decide) (h : a + b ≤ 1000000 := by decide) : CMulW i j := wide_mul h1 h2 ha hb h
def bigM : Int := (10 : Int) ^ (60 : Int).toNat * (10 : Int) ^ (60 : Int).toNat * (10 : Int) ^ (60 : Int).toNat * (10 : Int) ^ (60 : Int).toNat
/-- the number at a place of the script, 0 beyond -/
def cellAt (ns : List Int) (k : Int) : Int := if k < (ns.length : Int) then ns.getD k.toNat 0 else 0
def foundI (c k : Int) (n : Nat) : Int := (List.range n).foldl (fun (f : Int) (j : Nat) => f * 2147483579 + mixedI c (7 * k + 100 * (0 + (j : Int)) + (0 + (j : Int)) * (0 + (j : Int)))) 0
theorem found_succ (c k : Int) (n : Nat) : foundI c k (n + 1) = foundI c k n * 2147483579 + mixedI c (7 * k + 100 * (0 + (n : Int)) + (0 + (n : Int)) * (0 + (n : Int))) := by
  unfold foundI
  rw [List.range_succ, List.foldl_append]
  rfl
theorem found_lt (c k : Int) : ∀ n : Nat, 0 ≤ foundI c k n ∧ foundI c k n < ((2 ^ (31 * n) : Nat) : Int)
  | 0 => by
    show (0 : Int) ≤ 0 ∧ (0 : Int) < ((2 ^ (31 * 0) : Nat) : Int)
    decide
  | n + 1 => by
    have ih := found_lt c k n
    have hm := mixed_lt c (7 * k + 100 * (0 + (n : Int)) + (0 + (n : Int)) * (0 + (n : Int)))
    have e : 2 ^ (31 * (n + 1)) = 2 ^ (31 * n) * 2147483648 := by rw [Nat.mul_add, Nat.pow_add]
    rw [found_succ, e]
    generalize 2 ^ (31 * n) = P at ih
    omega
theorem found_nat (c k : Int) (n : Nat) (h : n ≤ 24) : (foundI c k n).natAbs < 2 ^ 744 := by
  have ih := found_lt c k n
  have h1 : 2 ^ (31 * n) ≤ 2 ^ 744 := Nat.pow_le_pow_right (by decide) (by omega)
  generalize 2 ^ (31 * n) = P at ih h1
  generalize 2 ^ 744 = R at h1
  omega
def cellF (ns : List Int) (k : Int) : Int :=
  let c := cellAt ns k
  if 10 ^ (18 : Int).toNat ≤ c then (c - 10 ^ (18 : Int).toNat).fmod bigM else foundI c k 24
/-! ### draws -/
def letterS : Str := "abcdefghijklmnopqrstuvwxyz"
def letterC (n : Int) : Nat := letterS.cps.toList.getD (n.fmod 26).toNat 0
def letF (_ : Dt) (n : Int) : Str × Int := (⟨#[letterC n]⟩, n.fdiv 26)
def threeS (i : Int) : Str := (["a", "b", "ab"] : List Str).getD i.toNat ""
def partF (n : Int) : Str × Int :=
  if n.fmod 5 < 3 then (threeS (n.fmod 5), n.fdiv 5)
  else
    let r := drawL letF (rngD 0 (1 + (n.fdiv 5).fmod 8).toNat) ((n.fdiv 5).fdiv 8)
    (Txt.join "" r.1, r.2)
def dotS : Str := "."
theorem tl_dot : tl dotS = [46] := by decide +kernel
/-- the parts of a drawn name -/
def partsF (most n : Int) : List Str × Int := drawL (fun _ m => partF m) (rngD 0 (1 + n.fmod most).toNat) (n.fdiv most)
def nameF (most n : Int) : Str × Int := (Txt.join dotS (partsF most n).1, (partsF most n).2)
theorem drawL_map {α β γ : Type} (f : α → Int → β × Int) (g : α → Int → γ × Int) (h : γ → β) (e : ∀ x n, f x n = (h (g x n).1, (g x n).2)) : ∀ (l : List α) (n : Int), drawL f l n = ((drawL g l n).1.map h, (drawL g l n).2)
  | [], n => rfl
  | x :: r, n => by
    rw [drawL, drawL, drawL_map f g h e r]
    rw [e x n]
    rfl
/-! ### what the draws give -/
def smallS : Str := "abcdefghijklmnopqrstuvwxyz"
def partS (z : Str) : Bool := (decide ((1 : Int) ≤ (z.length : Int)) && decide ((z.length : Int) ≤ 8)) && z.cps.toList.all fun c => decide (c ∈ smallS.cps.toList)
theorem letters : letterS.cps.toList = (List.range 26).map (· + 97) := by decide +kernel
theorem letter_in (n : Int) : letterC n ∈ smallS.cps.toList := by
  have h := fmod_lt (a := n) (b := 26) (by decide)
  have hl : letterS.cps.toList.length = 26 := by decide +kernel
  unfold letterC
  rw [List.getD_eq_getElem?_getD, List.getElem?_eq_getElem (by omega)]
  exact List.getElem_mem _
theorem letter_at (n : Int) : atI letterS.cps.toList (n.fmod 26) = some (letterC n) := by
  have h := fmod_lt (a := n) (b := 26) (by decide)
  have hl : letterS.cps.toList.length = 26 := by decide +kernel
  have e : ((n.fmod 26).toNat : Int) = n.fmod 26 := by omega
  have := atI_nat (xs := letterS.cps.toList) (j := (n.fmod 26).toNat) (v := letterC n) (by
    unfold letterC
    rw [List.getD_eq_getElem?_getD, List.getElem?_eq_getElem (by omega)]
    rfl)
  rwa [e] at this
theorem join_empty : ∀ ys : List Str, tl (Txt.join "" ys) = (ys.map tl).flatten
  | ys => by
    rw [tl_joinT]
    have : tl ("" : Str) = [] := by decide +kernel
    rw [this]
    generalize ys.map tl = l
    induction l with
    | nil => rfl
    | cons p r ih =>
      cases r with
      | nil => simp [joinL]
      | cons q r =>
        show p ++ ([] ++ joinL [] (q :: r)) = _
        rw [ih, List.nil_append]
        rfl
theorem part_ok (n : Int) : partS (partF n).1 = true := by
  unfold partF
  split
  · have h := fmod_lt (a := n) (b := 5) (by decide)
    have : n.fmod 5 = 0 ∨ n.fmod 5 = 1 ∨ n.fmod 5 = 2 := by omega
    show partS (threeS (n.fmod 5)) = true
    rcases this with e | e | e <;> rw [e] <;> decide +kernel
  · show partS (Txt.join "" (drawL letF (rngD 0 (1 + (n.fdiv 5).fmod 8).toNat) ((n.fdiv 5).fdiv 8)).1) = true
    have h8 := fmod_lt (a := n.fdiv 5) (b := 8) (by decide)
    generalize hr : drawL letF (rngD 0 (1 + (n.fdiv 5).fmod 8).toNat) ((n.fdiv 5).fdiv 8) = r
    have hlen : r.1.length = (1 + (n.fdiv 5).fmod 8).toNat := by
      rw [← hr, drawL_len]
      simp [rngD]
    have hall : ∀ y ∈ r.1, ∃ c, c ∈ smallS.cps.toList ∧ y = ⟨#[c]⟩ := by
      rw [← hr]
      exact drawL_all (fun x m => ⟨letterC m, letter_in m, rfl⟩) _ _
    have hj := join_empty r.1
    have key : ∀ l : List Str, (∀ y ∈ l, ∃ c, c ∈ smallS.cps.toList ∧ y = ⟨#[c]⟩) → ((l.map tl).flatten).length = l.length ∧ ∀ c ∈ (l.map tl).flatten, c ∈ smallS.cps.toList := by
      intro l
      induction l with
      | nil => intro _; exact ⟨rfl, fun c h => nomatch h⟩
      | cons y l ih =>
        intro h
        obtain ⟨c, hc, rfl⟩ := h y (List.mem_cons_self ..)
        obtain ⟨i1, i2⟩ := ih fun z hz => h z (List.mem_cons_of_mem _ hz)
        refine ⟨?_, fun d hd => ?_⟩
        · show ([c] ++ (l.map tl).flatten).length = _
          rw [List.length_append, i1]
          simp
          omega
        · have hd' : d ∈ [c] ++ (l.map tl).flatten := hd
          rcases List.mem_append.mp hd' with h | h
          · rw [List.mem_singleton.mp h]
            exact hc
          · exact i2 d h
    obtain ⟨k1, k2⟩ := key r.1 hall
    unfold partS
    rw [show (Txt.join "" r.1).cps.toList = (r.1.map tl).flatten from hj, len_tl, hj, k1, hlen, Bool.and_eq_true, Bool.and_eq_true]
    refine ⟨⟨decide_eq_true (by omega), decide_eq_true (by omega)⟩, List.all_eq_true.mpr fun c hc => decide_eq_true (k2 c hc)⟩
theorem partS_len {z : Str} (h : partS z = true) : 1 ≤ z.length ∧ z.length ≤ 8 := by
  unfold partS at h
  simp only [Bool.and_eq_true, decide_eq_true_eq] at h
  omega
theorem partS_free {z : Str} {c : Nat} (hc : c ∉ smallS.cps.toList) (h : partS z = true) : c ∉ tl z := by
  unfold partS at h
  simp only [Bool.and_eq_true, decide_eq_true_eq, List.all_eq_true] at h
  exact fun hm => hc (h.2 c hm)
theorem partS_nodot {z : Str} (h : partS z = true) : 46 ∉ tl z := partS_free (by decide +kernel) h
theorem parts_len (most n : Int) (h : 0 < most) : 1 ≤ (partsF most n).1.length ∧ ((partsF most n).1.length : Int) ≤ most := by
  have hm := fmod_lt (a := n) h
  unfold partsF
  rw [drawL_len]
  simp [rngD]
  omega
theorem parts_all (most n : Int) : ∀ y ∈ (partsF most n).1, partS y = true := drawL_all (fun _ m => part_ok m) _ _
theorem sum_le {l : List Str} (h : ∀ y ∈ l, partS y = true) : (l.map (·.length)).sum ≤ 8 * l.length := by
  induction l with
  | nil => simp
  | cons y l ih =>
    have h1 := (partS_len (h y (List.mem_cons_self ..))).2
    have h2 := ih fun z hz => h z (List.mem_cons_of_mem _ hz)
    simp only [List.map_cons, List.sum_cons, List.length_cons]
    omega
theorem join_len {l : List Str} (h : ∀ y ∈ l, partS y = true) : (Txt.join dotS l).length ≤ 9 * l.length := by
  rw [len_tl, tl_joinT, tl_dot]
  have h1 := joinL_len 46 (l.map tl)
  have h2 := sum_le h
  rw [List.map_map, List.length_map] at h1
  have : (List.length ∘ tl) = fun (s : Str) => s.length := by
    funext s
    exact (len_tl s).symm
  rw [this] at h1
  omega
theorem split_join {l : List Str} (h : ∀ y ∈ l, partS y = true) (hn : l ≠ []) : Txt.split (Txt.join dotS l) dotS = l := by
  apply map_tl_inj
  rw [split_one tl_dot (by decide), List.map_map, tl_joinT, tl_dot]
  have : (tl ∘ mk) = id := rfl
  rw [this, List.map_id]
  refine splitN_join (by simpa using hn) fun p hp => ?_
  obtain ⟨y, hy, rfl⟩ := List.mem_map.mp hp
  exact partS_nodot (h y hy)
/-! ### the program's names, as functions -/
def isPartD : Dt → Bool
  | .str z => partS z
  | _ => false
def nameS (z : Str) : Bool := decide (((Txt.split z dotS).length : Int) ≤ 4) && (Txt.split z dotS).all partS
def isNameD : Dt → Bool
  | .str z => nameS z
  | _ => false
def elderD (z : Str) : Dt := if (Txt.rpartition z dotS).1 = Str.empty then .non else .str (Txt.rpartition z dotS).1
def lastS (z : Str) : Str := (Txt.rpartition z dotS).2.2
def eldersS (z : Str) : List Str := (List.range (Txt.split z dotS).length).map fun i => Txt.join dotS ((Txt.split z dotS).take (i + 1))
def eldersL (l : List Str) : List Str := (List.range l.length).map fun i => Txt.join dotS (l.take (i + 1))
theorem elders_join {l : List Str} (h : ∀ y ∈ l, partS y = true) (hn : l ≠ []) : eldersS (Txt.join dotS l) = eldersL l := by
  unfold eldersS eldersL
  rw [split_join h hn]
theorem joinL_snoc (c : Nat) : ∀ (l : List (List Nat)) (x : List Nat), l ≠ [] → joinL [c] (l ++ [x]) = joinL [c] l ++ c :: x
  | [], _, h => absurd rfl h
  | [p], x, _ => rfl
  | p :: q :: r, x, _ => by
    have ih := joinL_snoc c (q :: r) x (by simp)
    show p ++ ([c] ++ joinL [c] ((q :: r) ++ [x])) = (p ++ ([c] ++ joinL [c] (q :: r))) ++ c :: x
    rw [ih]
    simp
theorem join_one (x : Str) : Txt.join dotS [x] = x := by
  apply ext_tl
  rw [tl_joinT]
  rfl
theorem elder_one {x : Str} (h : partS x = true) : elderD (Txt.join dotS [x]) = .non := by
  rw [join_one]
  unfold elderD
  rw [rpart_none tl_dot (partS_nodot h), if_pos rfl]
theorem last_one {x : Str} (h : partS x = true) : lastS (Txt.join dotS [x]) = x := by
  rw [join_one]
  unfold lastS
  rw [rpart_none tl_dot (partS_nodot h)]
theorem join_ne {l : List Str} (h : ∀ y ∈ l, partS y = true) (hn : l ≠ []) : ¬ Txt.join dotS l = Str.empty := by
  intro e
  have e2 : tl (Txt.join dotS l) = [] := by rw [e]; rfl
  rw [tl_joinT, tl_dot] at e2
  cases l with
  | nil => exact hn rfl
  | cons x r =>
    have hx := (partS_len (h x (List.mem_cons_self ..))).1
    rw [len_tl] at hx
    cases r with
    | nil =>
      have : tl x = [] := e2
      rw [this] at hx
      exact absurd hx (by decide)
    | cons y r =>
      have : tl x ++ ([46] ++ joinL [46] ((y :: r).map tl)) = [] := e2
      simp at this
theorem rpart_snoc {l : List Str} {x : Str} (h : partS x = true) (hn : l ≠ []) : Txt.rpartition (Txt.join dotS (l ++ [x])) dotS = (Txt.join dotS l, dotS, x) := by
  have e : tl (Txt.join dotS (l ++ [x])) = tl (Txt.join dotS l) ++ 46 :: tl x := by
    rw [tl_joinT, tl_joinT, tl_dot, List.map_append]
    exact joinL_snoc 46 _ _ (by simpa using hn)
  rw [rpart_some tl_dot e (partS_nodot h), mk_tl', mk_tl']
theorem elder_snoc {l : List Str} {x : Str} (hl : ∀ y ∈ l, partS y = true) (h : partS x = true) (hn : l ≠ []) : elderD (Txt.join dotS (l ++ [x])) = .str (Txt.join dotS l) := by
  unfold elderD
  rw [rpart_snoc h hn, if_neg (join_ne hl hn)]
theorem last_snoc {l : List Str} {x : Str} (h : partS x = true) (hn : l ≠ []) : lastS (Txt.join dotS (l ++ [x])) = x := by
  unfold lastS
  rw [rpart_snoc h hn]
/-- the elder as a list of names tells it -/
theorem elder_at {l : List Str} (h : ∀ y ∈ l, partS y = true) (hn : l ≠ []) : atI (Dt.non :: strsD (eldersL l)) (((strsD (eldersL l)).length : Int) - 1) = some (elderD (Txt.join dotS l)) := by
  have hlen : (strsD (eldersL l)).length = l.length := by
    unfold strsD eldersL
    simp
  rw [hlen]
  have hl1 : 1 ≤ l.length := List.length_pos_iff.mpr hn
  have e : ((l.length - 1 : Nat) : Int) = (l.length : Int) - 1 := by omega
  rw [← e]
  refine atI_nat ?_
  rcases List.eq_nil_or_concat l with z | ⟨i, x, z⟩
  · exact absurd z hn
  · rw [List.concat_eq_append] at z
    subst z
    have hx : partS x = true := h x (by simp)
    have hi : ∀ y ∈ i, partS y = true := fun y hy => h y (by simp [hy])
    rw [List.length_append, List.length_singleton, Nat.add_sub_cancel]
    cases i with
    | nil =>
      rw [List.nil_append, elder_one hx]
      rfl
    | cons a r =>
      rw [elder_snoc hi hx (by simp)]
      show (strsD (eldersL ((a :: r) ++ [x])))[r.length]? = _
      unfold strsD eldersL
      rw [List.map_map, List.getElem?_map, List.getElem?_range (by simp; omega)]
      simp [List.take_append]
theorem last_at {l : List Str} (h : ∀ y ∈ l, partS y = true) (hn : l ≠ []) : atI (strsD l) (-1) = some (.str (lastS (Txt.join dotS l))) := by
  rcases List.eq_nil_or_concat l with z | ⟨i, x, z⟩
  · exact absurd z hn
  · rw [List.concat_eq_append] at z
    subst z
    have hx : partS x = true := h x (by simp)
    have e : lastS (Txt.join dotS (i ++ [x])) = x := by
      cases i with
      | nil => exact last_one hx
      | cons a r => exact last_snoc hx (by simp)
    rw [e]
    unfold strsD
    rw [List.map_append]
    exact atI_last _ _
end LM

set_option linter.all false
set_option maxRecDepth 100000
set_option maxHeartbeats 4000000
/-! TYM: leading signs, parts of texts, names as lists of parts. -/
namespace TX
open PySem PySem.Spec PyProof.Rows L2 DM TL
/-- how many signs c stand ahead -/
def leadN (c : Nat) : List Nat → Nat
  | [] => 0
  | x :: r => if x = c then leadN c r + 1 else 0
theorem leadN_le (c : Nat) : ∀ l, leadN c l ≤ l.length
  | [] => Nat.le_refl _
  | x :: r => by
    have ih := leadN_le c r
    rw [leadN]
    split
    · simp
      exact ih
    · exact Nat.zero_le _
theorem leadN_take {c : Nat} {g : Nat → Bool} (hg : ∀ x, g x = decide (x = c)) : ∀ l : List Nat, (l.takeWhile g).length = leadN c l
  | [] => rfl
  | x :: r => by
    have ih := leadN_take hg r
    rw [List.takeWhile_cons, leadN, hg]
    by_cases h : x = c
    · simp [h, ih]
    · simp [h]
theorem leadN_at {c : Nat} : ∀ (l : List Nat) (i : Nat), i < leadN c l → l[i]? = some c
  | [], i, h => absurd h (Nat.not_lt_zero _)
  | x :: r, 0, h => by
    rw [leadN] at h
    split at h
    · rename_i e
      rw [e]
      rfl
    · exact absurd h (Nat.not_lt_zero _)
  | x :: r, i + 1, h => by
    rw [leadN] at h
    split at h
    · rw [List.getElem?_cons_succ]
      exact leadN_at r i (by omega)
    · exact absurd h (Nat.not_lt_zero _)
theorem leadN_end {c : Nat} : ∀ l : List Nat, l[leadN c l]? ≠ some c
  | [] => by simp
  | x :: r => by
    rw [leadN]
    split
    · rw [List.getElem?_cons_succ]
      exact leadN_end r
    · rename_i h
      simpa using h
theorem lstrip_one {y : Str} {c : Nat} (hy : tl y = [c]) (x : Str) : Txt.lstripChars x y = mk ((tl x).drop (leadN c (tl x))) := by
  apply ext_tl
  rw [tl_mk']
  unfold Txt.lstripChars
  rw [PyProof.Rows.stripBy_eq]
  have h1 : stripLo y.cps.contains true x = leadN c (tl x) := by
    simp only [stripLo, if_true]
    refine leadN_take (fun z => ?_) (tl x)
    have : y.cps = #[c] := by
      apply Array.toList_inj.mp
      exact hy
    rw [this]
    by_cases h : z = c <;> simp [h]
  have h2 : stripHi y.cps.contains false x (stripLo y.cps.contains true x) = x.length := by
    simp [stripHi]
  rw [h2, h1]
  exact tl_strSub_end x _
theorem tl_cut (z : Str) (i j : Nat) : tl (cutS z (some (i : Int)) (some (j : Int))) = ((tl z).drop i).take (j - i) := by
  unfold cutS
  rw [tl_mk, HT.sIx_nat, HT.sIx_nat]
  show ((tl z).drop _).take _ = _
  have hl : z.length = (tl z).length := len_tl z
  by_cases hi : i ≤ z.length
  · rw [Nat.min_eq_left hi]
    by_cases hj : j ≤ z.length
    · rw [Nat.min_eq_left hj]
    · rw [Nat.min_eq_right (by omega), List.take_of_length_le (by rw [List.length_drop]; omega), List.take_of_length_le (by rw [List.length_drop]; omega)]
  · rw [Nat.min_eq_right (show z.length ≤ i by omega), List.drop_of_length_le (show (tl z).length ≤ z.length by omega), List.drop_of_length_le (show (tl z).length ≤ i by omega)]
    simp
theorem tl_cutFrom (z : Str) (i : Nat) : tl (cutS z (some (i : Int)) none) = (tl z).drop i := by
  unfold cutS
  rw [tl_mk, HT.sIx_nat, HT.sIx_none]
  show ((tl z).drop _).take _ = _
  have hl : z.length = (tl z).length := len_tl z
  by_cases hi : i ≤ z.length
  · rw [Nat.min_eq_left hi, List.take_of_length_le (by rw [List.length_drop]; omega)]
  · rw [Nat.min_eq_right (by omega), List.drop_of_length_le (by omega), List.drop_of_length_le (by omega)]
    simp
theorem tl_cutTo (z : Str) (j : Nat) : tl (cutS z none (some (j : Int))) = (tl z).take j := by
  unfold cutS
  rw [tl_mk, HT.sIx_nat, HT.sIx_none]
  show ((tl z).drop 0).take _ = _
  rw [List.drop_zero, Nat.sub_zero]
  have hl : z.length = (tl z).length := len_tl z
  by_cases hj : j ≤ z.length
  · rw [Nat.min_eq_left hj]
  · rw [Nat.min_eq_right (by omega), List.take_of_length_le (by omega), List.take_of_length_le (by omega)]
theorem beq_mk {x : Str} {l : List Nat} : (x == mk l) = decide (tl x = l) := by
  by_cases h : tl x = l
  · have : x = mk l := ext_tl h
    rw [decide_eq_true h, this]
    exact beq_self_eq_true _
  · rw [decide_eq_false h, beq_eq_false_iff_ne]
    intro e
    rw [e] at h
    exact h rfl
theorem eq_mk {x : Str} {l : List Nat} : x = mk l ↔ tl x = l := ⟨fun h => by rw [h]; rfl, fun h => ext_tl h⟩
theorem rep_len (x : Str) (n : Int) : (repS x n).length ≤ x.length * n.toNat := by
  unfold repS
  split
  · exact Nat.zero_le _
  · split
    · rename_i h1 h2
      have : 1 ≤ n.toNat := by omega
      calc x.length = x.length * 1 := (Nat.mul_one _).symm
        _ ≤ x.length * n.toNat := Nat.mul_le_mul_left _ this
    · show ((List.replicate n.toNat x.cps).foldl (· ++ ·) #[]).size ≤ _
      rw [foldl_size]
      show 0 + x.cps.size * n.toNat ≤ x.length * n.toNat
      rw [Nat.zero_add]
      exact Nat.le_refl _
end TX
namespace LM
open PySem PySem.Spec PyProof.Rows L2 DM TL TX
/-- a name is its parts, joined -/
theorem name_parts {z : Str} (h : nameS z = true) : ∃ l : List Str, (∀ y ∈ l, partS y = true) ∧ l ≠ [] ∧ l.length ≤ 4 ∧ z = Txt.join dotS l := by
  unfold nameS at h
  rw [Bool.and_eq_true, decide_eq_true_eq, List.all_eq_true] at h
  refine ⟨Txt.split z dotS, h.2, ?_, by omega, ?_⟩
  · rw [split_one tl_dot (by decide)]
    simpa using splitN_ne 46 (tl z)
  · apply ext_tl
    rw [split_one tl_dot (by decide), join_mk tl_dot, join_splitN]
    rfl
theorem name_join {l : List Str} (h : ∀ y ∈ l, partS y = true) (hn : l ≠ []) : nameS (Txt.join dotS l) = decide (l.length ≤ 4) := by
  unfold nameS
  rw [split_join h hn, List.all_eq_true.mpr h, Bool.and_true]
  by_cases c : l.length ≤ 4
  · rw [decide_eq_true c, decide_eq_true (by omega)]
  · rw [decide_eq_false c, decide_eq_false (by omega)]
theorem name_len {z : Str} (h : nameS z = true) : z.length ≤ 36 := by
  obtain ⟨l, h1, _, h3, rfl⟩ := name_parts h
  have := join_len h1
  omega
theorem name_ne {z : Str} (h : nameS z = true) : z ≠ Str.empty := by
  obtain ⟨l, h1, h2, h3, rfl⟩ := name_parts h
  exact join_ne h1 h2
def elderX : Dt → Dt
  | .str z => elderD z
  | d => d
def upD (n : Nat) (d : Dt) : Dt := n.rec d fun _ e => elderX e
theorem upD_succ (n : Nat) (d : Dt) : upD (n + 1) d = elderX (upD n d) := rfl
theorem up_join {l : List Str} (h : ∀ y ∈ l, partS y = true) (hn : l ≠ []) : ∀ n : Nat, upD n (.str (Txt.join dotS l)) = if n < l.length then .str (Txt.join dotS (l.take (l.length - n))) else .non
  | 0 => by
    have : 0 < l.length := List.length_pos_iff.mpr hn
    rw [if_pos this, Nat.sub_zero, List.take_length]
    rfl
  | n + 1 => by
    rw [upD_succ, up_join h hn n]
    by_cases c : n < l.length
    · rw [if_pos c]
      have hl : (l.take (l.length - n)).length = l.length - n := by rw [List.length_take]; omega
      have hne : l.take (l.length - n) ≠ [] := by
        intro e
        rw [e] at hl
        simp at hl
        omega
      have hp : ∀ y ∈ l.take (l.length - n), partS y = true := fun y hy => h y (List.mem_of_mem_take hy)
      rcases List.eq_nil_or_concat (l.take (l.length - n)) with e | ⟨i, x, e⟩
      · exact absurd e hne
      · rw [List.concat_eq_append] at e
        have hx : partS x = true := hp x (by rw [e]; simp)
        have hi : ∀ y ∈ i, partS y = true := fun y hy => hp y (by rw [e]; simp [hy])
        have hil : i.length = l.length - n - 1 := by
          rw [e, List.length_append, List.length_singleton] at hl
          omega
        rw [e]
        by_cases c2 : n + 1 < l.length
        · have hin : i ≠ [] := by
            intro z
            rw [z] at hil
            simp at hil
            omega
          rw [if_pos c2]
          show elderD _ = _
          rw [elder_snoc hi hx hin]
          have : i = l.take (l.length - (n + 1)) := by
            have e2 : (l.take (l.length - n)).take (l.length - n - 1) = i := by
              rw [e, ← hil, List.take_left]
            rw [← e2, List.take_take]
            congr 1
            omega
          rw [← this]
        · have hin : i = [] := by
            apply List.eq_nil_of_length_eq_zero
            omega
          rw [if_neg c2, hin]
          exact elder_one hx
    · rw [if_neg c, if_neg (by omega)]
      rfl
theorem join_cons (l r : List Str) (hl : l ≠ []) : Txt.join dotS (Txt.join dotS l :: r) = Txt.join dotS (l ++ r) := by
  apply ext_tl
  rw [tl_joinT, tl_joinT, tl_dot, List.map_cons, tl_joinT, tl_dot, List.map_append]
  generalize r.map tl = rs
  have : l.map tl ≠ [] := by simpa using hl
  generalize l.map tl = ls at this
  clear hl
  induction ls with
  | nil => exact absurd rfl this
  | cons p q ih =>
    cases q with
    | nil => rfl
    | cons p2 q =>
      have ih := ih (by simp)
      cases rs with
      | nil => simp [joinL]
      | cons r1 rs =>
        show (p ++ ([46] ++ joinL [46] (p2 :: q))) ++ ([46] ++ joinL [46] (r1 :: rs)) = p ++ ([46] ++ joinL [46] ((p2 :: q) ++ r1 :: rs))
        rw [← ih]
        show _ = p ++ ([46] ++ (joinL [46] (p2 :: q) ++ ([46] ++ joinL [46] (r1 :: rs))))
        simp only [List.append_assoc]
/-! ### names from afar -/
def dotsN (z : Str) : Nat := leadN 46 (tl z)
def behS (z : Str) : Str := mk ((tl z).drop (dotsN z))
theorem lstrip_dot (z : Str) : Txt.lstripChars z dotS = behS z := lstrip_one tl_dot z
theorem beh_len (z : Str) : (behS z).length + dotsN z = z.length := by
  unfold behS
  rw [len_mk, List.length_drop, len_tl]
  have := leadN_le 46 (tl z)
  unfold dotsN
  omega
def nearS (z : Str) : Bool := decide (dotsN z ≤ 4) && (nameS (behS z) || (decide (behS z = Str.empty) && decide (0 < dotsN z)))
def isNearD : Dt → Bool
  | .str z => nearS z
  | _ => false
/-- the parts behind the dots -/
def restS (z : Str) : List Str := (Txt.split (behS z) dotS).filter fun p => !(p == Str.empty)
def nearF (w b : Dt) (k : Bool) : Option Dt := match w with
  | .str z => if nearS z = true then (if dotsN z = 0 then some (.str z) else if isNameD b = true then (match upD (dotsN z - k.toNat) b with
    | .str h => if nameS (Txt.join dotS (h :: restS z)) = true then some (.str (Txt.join dotS (h :: restS z))) else none
    | _ => none) else none) else none
  | _ => none
theorem rest_ok {z : Str} (h : nearS z = true) : (∀ y ∈ restS z, partS y = true) ∧ (restS z).length ≤ 4 := by
  unfold nearS at h
  rw [Bool.and_eq_true, Bool.or_eq_true, Bool.and_eq_true, decide_eq_true_eq, decide_eq_true_eq] at h
  unfold restS
  rcases h.2 with h1 | ⟨h1, _⟩
  · obtain ⟨l, h2, h3, h4, h5⟩ := name_parts h1
    rw [h5, split_join h2 h3]
    exact ⟨fun y hy => h2 y (List.mem_filter.mp hy).1, Nat.le_trans (List.length_filter_le _ _) h4⟩
  · rw [h1, split_one tl_dot (by decide)]
    have : splitN 46 (tl Str.empty) = [[]] := rfl
    rw [this]
    have e : (mk [] == Str.empty) = true := rfl
    simp [e]
theorem nameF_ok {most n : Int} (h0 : 0 < most) (h4 : most ≤ 4) : nameS (nameF most n).1 = true := by
  have hp := parts_len most n h0
  have hn : (partsF most n).1 ≠ [] := by
    intro e
    rw [e] at hp
    simp at hp
  unfold nameF
  show nameS (Txt.join dotS (partsF most n).1) = true
  rw [name_join (parts_all most n) hn, decide_eq_true_eq]
  omega
end LM

set_option linter.all false
set_option maxRecDepth 100000
set_option maxHeartbeats 4000000
/-! DT: further steps at given data, for simp with a discharger. -/
namespace DM
open PySem PySem.Spec PyProof.Rows L2 TL TX LM
open Classical
section
variable {β : Type} {c : Prop} [Decidable c] {a b : R β} {μ : Mem} {d e : Dt} {ds es : List Dt} {x y z : Str} {i j : Int} {k l : Bool} {T : String} {n m : Nat} {δ : DM.Env}
theorem if_no (h : c) : (if c then a else R.no) = a := if_pos h
theorem if_ok (h : c) : (if c then a else b) = a := if_pos h
theorem if_not (h : ¬ c) : (if c then a else b) = b := if_neg h
/-- a part that may be there -/
def optR (o : Option Dt) (μ : Mem) : R Dt := match o with
  | some d => .ok d μ
  | none => .no
@[simp] theorem optR_some : optR (some d) μ = .ok d μ := rfl
@[simp] theorem strsD_len {l : List Str} : (strsD l).length = l.length := by simp [strsD]
@[simp] theorem rngD_len {lo : Int} {n : Nat} : (rngD lo n).length = n := by simp [rngD]
@[simp] theorem signsD_len : (signsD z).length = z.length := by simp [signsD, Str.length]
@[simp] theorem strsD_cons {l : List Str} : Dt.str x :: strsD l = strsD (x :: l) := rfl
@[simp] theorem strsD_app {l m : List Str} : strsD l ++ strsD m = strsD (l ++ m) := by simp [strsD]
theorem map_str {l : List Str} : l.map Dt.str = strsD l := rfl
theorem strsD_one : [Dt.str x] = strsD [x] := rfl
@[simp] theorem asS_lst : asS μ (.lst ds) = some ds := rfl
@[simp] theorem asS_tup : asS μ (.tup ds) = some ds := rfl
@[simp] theorem asL_lst : asL μ (.lst ds) = some ds := rfl
/-- the list of the store at n -/
def lstAt (μ : Mem) (n : Nat) : Option (List Dt) := match μ[n]? with
  | some (.lst ds) => some ds
  | _ => none
@[simp] theorem asL_ptr : asL μ (.ptr n) = lstAt μ n := rfl
@[simp] theorem asS_ptr : asS μ (.ptr n) = lstAt μ n := rfl
@[simp] theorem asT_strs {l : List Str} : asT (strsD l) = some l := asT_map l
@[simp] theorem tyM_str : tyM T (.str z) μ = (T == "str") := rfl
@[simp] theorem tyM_int : tyM T (.int i) μ = (T == "int") := rfl
@[simp] theorem tyM_lst : tyM T (.lst ds) μ = (T == "list") := rfl
@[simp] theorem tyM_ptr : tyM T (.ptr n) μ = (match μ[n]? with | some (.lst _) => T == "list" | some (.dK _) => T == "dict" | some (.dT _) => T == "dict" | _ => false) := rfl
/-! texts -/
theorem dot_eq : (Str.ofString ".") = dotS := rfl
theorem dot_ne : (dotS.length == 0) = false := by decide +kernel
theorem bSplit_str (h : (y.length == 0) = false) (h2 : x.length ≤ 10000000) : bSplit (.str x) [.str y] μ = .ok (.lst (strsD (Txt.split x y))) μ := if_pos ⟨h, h2⟩
theorem bSplit_dot (h2 : x.length ≤ 10000000) : bSplit (.str x) [.str (Str.ofString ".")] μ = .ok (.lst (strsD (Txt.split x dotS))) μ := bSplit_str dot_ne h2
theorem bRpart_dot (h2 : x.length ≤ 10000000) : bRpart (.str x) [.str (Str.ofString ".")] μ = .ok (.tup (strsD [(Txt.rpartition x dotS).1, (Txt.rpartition x dotS).2.1, (Txt.rpartition x dotS).2.2])) μ := if_pos ⟨dot_ne, h2⟩
theorem bLstrip_dot (h2 : x.length ≤ 10000000) : bLstrip (.str x) [.str (Str.ofString ".")] μ = .ok (.str (behS x)) μ := by
  rw [← lstrip_dot]
  exact if_pos h2
theorem bJoin_strs {l : List Str} (h : (l.map (·.length)).sum + l.length * x.length ≤ 16777216) : bJoin (.str x) [.lst (strsD l)] μ = .ok (.str (Txt.join x l)) μ := by
  simp only [bJoin, asS_lst, Option.bind_some, asT_strs]
  exact if_pos h
theorem bJoin_dot {l : List Str} (h : (l.map (·.length)).sum + l.length * dotS.length ≤ 16777216) : bJoin (.str (Str.ofString ".")) [.lst (strsD l)] μ = .ok (.str (Txt.join dotS l)) μ := bJoin_strs h
theorem bJoin_none {l : List Str} (h : (l.map (·.length)).sum + l.length * ("" : Str).length ≤ 16777216) : bJoin (.str (Str.ofString "")) [.lst (strsD l)] μ = .ok (.str (Txt.join "" l)) μ := bJoin_strs h
theorem bCount_str : bCount (.str x) [.str y] μ = .ok (.int (Txt.count x y)) μ := rfl
theorem bCount_dot : bCount (.str x) [.str (Str.ofString ".")] μ = .ok (.int (((Txt.split x dotS).length : Int) - 1)) μ := by
  have := split_count tl_dot (by decide) x
  rw [this, Int.add_sub_cancel]
  rfl
@[simp] theorem bStartswith_str : bStartswith (.str x) [.str y] μ = .ok (.bl (Txt.startswith x y)) μ := rfl
/-! parts -/
theorem oIx_lst : oIx (.lst ds) (.int i) μ = optR (L2.atI ds i) μ := by
  simp only [oIx, asS_lst]
  cases L2.atI ds i <;> rfl
theorem oIx_tup : oIx (.tup ds) (.int i) μ = optR (L2.atI ds i) μ := by
  simp only [oIx, asS_tup]
  cases L2.atI ds i <;> rfl
theorem oIx_scr : oIx (.scr ds) (.int i) μ = optR (L2.atI ds i) μ := by
  simp only [oIx]
  cases L2.atI ds i <;> rfl
theorem oIx_ptr : oIx (.ptr n) (.int i) μ = optR ((lstAt μ n).bind fun ds => L2.atI ds i) μ := by
  simp only [oIx, asS_ptr]
  cases lstAt μ n with
  | none => rfl
  | some ds => cases e : L2.atI ds i <;> simp [e, optR]
theorem oIx_str (h : z.length ≤ 10000000) : oIx (.str z) (.int i) μ = optR ((L2.atI z.cps.toList i).map fun c => .str ⟨#[c]⟩) μ := by
  simp only [oIx]
  rw [if_pos h]
  cases L2.atI z.cps.toList i <;> rfl
theorem oSl_str {lo hi : Option Int} (h : z.length ≤ 10000000) : oSl (.str z) lo hi μ = .ok (.str (cutS z lo hi)) μ := if_pos h
@[simp] theorem oSl_lst {lo hi : Option Int} : oSl (.lst ds) lo hi μ = .ok (.lst (cutD ds lo hi)) μ := rfl
theorem oSl_ptr {lo hi : Option Int} : oSl (.ptr n) lo hi μ = optR ((lstAt μ n).map fun ds => .lst (cutD ds lo hi)) μ := by
  simp only [oSl, asL_ptr]
  cases lstAt μ n <;> rfl
@[simp] theorem mPart_ap {f : MX} : mPart f δ μ = (f δ μ).bind fun x μ1 => match x with
  | .int i => .ok (some i) μ1
  | _ => .no := rfl
/-! the store -/
@[simp] theorem at_add {μ l : Mem} : (μ ++ l)[μ.length + n]? = l[n]? := by
  rw [List.getElem?_append_right (Nat.le_add_right _ _), Nat.add_sub_cancel_left]
@[simp] theorem at_add0 {μ l : Mem} : (μ ++ l)[μ.length]? = l[0]? := by
  rw [List.getElem?_append_right (Nat.le_refl _), Nat.sub_self]
@[simp] theorem set_add {μ l : Mem} {o : MO} : (μ ++ l).set (μ.length + n) o = μ ++ l.set n o := by
  rw [List.set_append_right _ _ (Nat.le_add_right _ _), Nat.add_sub_cancel_left]
@[simp] theorem set_add0 {μ l : Mem} {o : MO} : (μ ++ l).set μ.length o = μ ++ l.set 0 o := by
  rw [List.set_append_right _ _ (Nat.le_refl _), Nat.sub_self]
theorem ext_at {μ l : Mem} {o : MO} (h : μ[n]? = some o) : (μ ++ l)[n]? = some o := by
  rw [List.getElem?_append_left (List.getElem?_eq_some_iff.mp h).1]
  exact h
theorem oCatN_pl : oCatN (.ptr n) (.lst es) μ = (match lstAt μ n with | some ds => if ds.length + es.length ≤ 1000000 then .ok (.ptr μ.length) (μ ++ [.lst (ds ++ es)]) else .no | none => .no) := by
  unfold oCatN
  rw [asL_ptr, asL_lst]
  cases lstAt μ n <;> rfl
theorem bAppend_ptr : bAppend (.ptr n) [d] μ = (match lstAt μ n with | some ds => if ds.length ≤ 1000000 then .ok .non (μ.set n (.lst (ds ++ [d]))) else .no | none => .no) := by
  cases e : μ[n]? with
  | none => simp [bAppend, lstAt, e]
  | some o => cases o <;> simp [bAppend, lstAt, e]
theorem srcZ_lp : srcZ [.lst ds, .ptr n] μ = (match lstAt μ n with | some es => .ok (zipD ds es, some (n, .lst es)) μ | none => .no) := by
  cases e : μ[n]? with
  | none => simp [srcZ, lstAt, e]
  | some o => cases o <;> simp [srcZ, lstAt, e]
@[simp] theorem okG_some {o : MO} : okG (some (n, o)) μ ↔ μ[n]? = some o := by
  unfold okG
  exact ⟨fun h => h n o rfl, fun h i o' e => by cases e; exact h⟩
theorem lcL_cons {g : MG} {t : MT} {e : MX} {gd : Option (Nat × MO)} (h : okG gd μ) : lcL g t e δ gd (d :: ds) μ = (match g d δ μ with
    | none => .no
    | some δ1 => (t δ1 μ).noX.bind fun k μ1 => if k = true then (e δ1 μ1).noX.bind fun y μ2 => (lcL g t e δ gd ds μ2).bind fun ys μ3 => .ok (y :: ys) μ3 else lcL g t e δ gd ds μ1) := by
  rw [lcL, if_pos h]
  all_goals
    cases g d δ μ with
    | none => rfl
    | some δ1 =>
      show R.bind _ _ = R.bind _ _
      congr 1
theorem lcL_nil {g : MG} {t : MT} {e : MX} {gd : Option (Nat × MO)} (h : okG gd μ) : lcL g t e δ gd [] μ = .ok [] μ := by
  rw [lcL, if_pos h]
theorem sTry_ap {cq : Nat → Option Bool} {b s : MS} : sTry cq n b s δ μ = match b δ μ with
  | .ex n1 ns es δ' μ' => match cq n1 with
    | some true => (match s (δ'.set n (some (.exc n1 ns es))) μ' with
      | .nx δ2 μ2 => .nx (δ2.set n none) μ2
      | .bk δ2 μ2 => .bk (δ2.set n none) μ2
      | .ct δ2 μ2 => .ct (δ2.set n none) μ2
      | .rt d μ2 => .rt d μ2
      | _ => .no)
    | some false => .ex n1 ns es δ' μ'
    | none => .no
  | o => o := rfl
theorem seq_step {s u : MS} {δ1 : DM.Env} {μ1 : Mem} {o : O} (h : s δ μ = .nx δ1 μ1) (k : u δ1 μ1 = o) : sSeq s u δ μ = o := by
  rw [sSeq_ap, h, Othn_nx, k]
theorem forL_keep {tg : MG} {body : MS} (I : DM.Env → Mem → Prop) : ∀ {ds : List Dt} {δ : DM.Env} {μ : Mem}, (∀ d ∈ ds, ∀ δ μ, I δ μ → ∃ δ1 δ' μ', tg d δ μ = some δ1 ∧ body δ1 μ = .nx δ' μ' ∧ I δ' μ') → I δ μ → ∃ δ' μ', forL tg body none ds δ μ = .nx δ' μ' ∧ I δ' μ'
  | [], δ, μ, _, h => ⟨δ, μ, by simp [forL], h⟩
  | d :: ds, δ, μ, hs, h => by
    obtain ⟨δ1, δ', μ', e1, e2, p⟩ := hs d List.mem_cons_self δ μ h
    obtain ⟨δ2, μ2, e3, p2⟩ := forL_keep I (fun d hd => hs d (List.mem_cons_of_mem _ hd)) p
    exact ⟨δ2, μ2, by simp [forL, e1, e2, e3], p2⟩
/-! walks -/
@[simp] theorem srcL_lst : srcL (.lst ds) μ = .ok (ds, none) μ := rfl
theorem srcL_ptr : srcL (.ptr n) μ = (match lstAt μ n with | some ds => .ok (ds, some (n, .lst ds)) μ | none => .no) := by
  cases e : μ[n]? with
  | none => simp [srcL, lstAt, e]
  | some o => cases o <;> simp [srcL, lstAt, e]
@[simp] theorem srcT_tup : srcT (.tup ds) μ = .ok (ds, none) μ := rfl
@[simp] theorem srcS_str : srcS (.str z) μ = .ok (signsD z, none) μ := rfl
theorem srcR1_int (h : -1000000000 ≤ i ∧ i ≤ 1000000000) : srcR1 [.int i] μ = .ok (rngD 0 i.toNat, none) μ := if_pos h
theorem srcR2_int (h : -1000000000 ≤ j ∧ j ≤ 1000000000 ∧ -1000000000 ≤ i ∧ i ≤ 1000000000) : srcR2 [.int i, .int j] μ = .ok (rngD i (j - i).toNat, none) μ := if_pos h
@[simp] theorem srcE_lst : srcE [.lst ds] μ = .ok (enumD ds, none) μ := rfl
@[simp] theorem srcZ_lst : srcZ [.lst ds, .lst es] μ = .ok (zipD ds es, none) μ := rfl
@[simp] theorem mLc_ap {it : MI} {g : MG} {t : MT} {e : MX} {vs : List Nat} : mLc it g t e vs δ μ = (lcR it g t e vs δ μ).bind fun ds μ1 => .ok (.lst ds) μ1 := rfl
@[simp] theorem mLcN_ap {it : MI} {g : MG} {t : MT} {e : MX} {vs : List Nat} : mLcN it g t e vs δ μ = (lcR it g t e vs δ μ).bind fun ds μ1 => .ok (.ptr μ1.length) (μ1 ++ [.lst ds]) := rfl
@[simp] theorem lcR_ap {it : MI} {g : MG} {t : MT} {e : MX} {vs : List Nat} : lcR it g t e vs δ μ = (it δ μ).bind fun s μ1 => if s.1.length ≤ 1000000 then lcL g t e (wipeD δ vs) s.2 s.1 μ1 else .no := rfl
@[simp] theorem mChain_ap {f g : Dt → Dt → Mem → R Dt} {a b c : MX} : mChain f g a b c δ μ = (a δ μ).bind fun x μ1 => (b δ μ1).bind fun y μ2 => (f x y μ2).bind fun z μ3 => match z with
  | .bl k => if k = true then (c δ μ3).bind fun u μ4 => (g y u μ4).bind fun r μ5 => match r with
      | .bl l => .ok (.bl l) μ5
      | _ => .no
    else .ok (.bl false) μ3
  | _ => .no := rfl
/-! == -/
theorem oEq_int : oEq (.int i) (.int j) μ = .ok (.bl (i == j)) μ := by simp [oEq, toPM, PyData.eqv]
theorem oNe_int : oNe (.int i) (.int j) μ = .ok (.bl (!(i == j))) μ := by simp [oNe, toPM, PyData.eqv]
@[simp] theorem sRaise0_ap : sRaise0 n δ μ = .ex n [] [] δ μ := rfl
@[simp] theorem sBrk_ap : sBrk δ μ = .bk δ μ := rfl
@[simp] theorem sCnt_ap : sCnt δ μ = .ct δ μ := rfl
theorem mDef_ap {N np : Nat} {b : MS} {ds : List Dt} (h : ds.length = np) : mDef N np b ds μ = (b (ds.map some ++ List.replicate (N - np) none) μ).out := if_pos h
@[simp] theorem pm_nil {α : Type} {l : List α} : pm [] l = [] := rfl
@[simp] theorem pm_cons {α : Type} {l : List α} {idx : List Nat} : pm (n :: idx) l = (match l[n]? with | some d => d :: pm idx l | none => pm idx l) := by
  unfold pm
  rw [List.filterMap_cons]
  cases l[n]? <;> rfl
@[simp] theorem toI {k : Bool} : (if k = true then (1 : Int) else 0) = (k.toNat : Int) := by cases k <;> rfl
end
end DM

set_option linter.all false
set_option maxRecDepth 100000
set_option maxHeartbeats 4000000
/-! DU: classes and dicts at given data, for simp. -/
namespace DM
open PySem PySem.Spec PyProof.Rows L2 TL TX LM
open Classical
section
variable {β : Type} {μ : Mem} {d e x y : Dt} {ds es : List Dt} {z : Str} {f m : Str} {n i cn l : Nat} {δ : DM.Env} {a o c : MX} {as ks : MA} {g : List Dt → Mem → R Dt} {idx : List Nat} {md : List Dt} {nx ni : Nat → Str → Bool} {tb : Nat → Option (List Dt → Mem → R Dt)} {s : MS}
/-- e.f = y -/
def stFld (ni : Nat → Str → Bool) (f : Str) (δ : DM.Env) (y x : Dt) (μ : Mem) : O := match x with
  | .ptr i => match μ[i]? with
    | some (.ins n fs) => if ni n f = true ∧ fs.length < 1000 then .nx δ (μ.set i (.ins n (putD f y fs))) else .no
    | _ => .no
  | _ => .no
@[simp] theorem sFldM_ap : sFldM ni f a o δ μ = (a δ μ).thn δ fun y μ1 => (o δ μ1).thn δ fun x μ2 => stFld ni f δ y x μ2 := rfl
theorem stFld_ptr {cn : Nat} {fs : List (Str × Dt)} (h : μ[i]? = some (.ins cn fs)) (h1 : ni cn f = true) (h2 : fs.length < 1000) : stFld ni f δ y (.ptr i) μ = .nx δ (μ.set i (.ins cn (putD f y fs))) := by
  simp [stFld, h, h1, h2]
@[simp] theorem mMake_ap : mMake cn n l g idx md as ks δ μ = (as δ μ).bind fun ds μ1 => (ks δ μ1).bind fun es μ2 => if ds.length = n ∧ es.length = l then
  (g (pm idx ((.ptr μ2.length :: ds) ++ md ++ es)) (μ2 ++ [.ins cn []])).bind fun d μ3 => (match d with
    | .non => .ok (.ptr μ2.length) μ3
    | _ => .no) else .no := rfl
/-- the instance at i -/
def insAt (μ : Mem) (i : Nat) : Option (Nat × List (Str × Dt)) := match μ[i]? with
  | some (.ins n fs) => some (n, fs)
  | _ => none
theorem oFld_ptr : oFld nx ni f (.ptr i) μ = (match insAt μ i with
    | some (n, fs) => if ni n f = true then optR (fs.lookup f) μ else .no
    | none => .no) := by
  cases e : μ[i]? with
  | none => simp [oFld, insAt, e]
  | some u =>
    cases u with
    | ins n fs =>
      simp only [oFld, insAt, e]
      cases fs.lookup f <;> rfl
    | _ => simp [oFld, insAt, e]
theorem oFld_exc {ns : List Str} : oFld nx ni f (.exc n ns es) μ = if nx n f = true then optR ((ns.zip es).lookup f) μ else .no := by
  simp only [oFld]
  cases (ns.zip es).lookup f <;> rfl
theorem mMeth_ap : mMeth tb m n l idx md o as ks δ μ = (o δ μ).bind fun x μ0 => match x with
  | .ptr i => match insAt μ0 i with
    | some (cn, fs) => match tb cn, fs.lookup m with
      | some f, none => (as δ μ0).bind fun ds μ1 => (ks δ μ1).bind fun es μ2 => if ds.length = n ∧ es.length = l then f (pm idx ((.ptr i :: ds) ++ md ++ es)) μ2 else .no
      | _, _ => .no
    | _ => .no
  | _ => .no := by
  unfold mMeth
  congr 1
  funext x μ0
  cases x with
  | ptr i =>
    cases e : μ0[i]? with
    | none => simp [insAt, e]
    | some u =>
      cases u with
      | ins cn fs =>
        simp only [insAt, e]
        all_goals
          cases tb cn with
          | none => cases fs.lookup m <;> rfl
          | some g => cases fs.lookup m <;> rfl
      | _ => simp [insAt, e]
  | _ => rfl
/-! dicts -/
@[simp] theorem mDNew_ap : mDNew δ μ = .ok (.ptr μ.length) (μ ++ [.dK []]) := rfl
def dctAt (μ : Mem) (i : Nat) : Option (List (Key × Dt)) := match μ[i]? with
  | some (.dK kvs) => some kvs
  | _ => none
@[simp] theorem asK_ptr : asK μ (.ptr i) = dctAt μ i := rfl
@[simp] theorem keyD_str : keyD (.str z) = some (.inr z) := rfl
theorem oDGet_ptr : oDGet (.ptr i) (.str z) μ = (match dctAt μ i with
    | some kvs => optR (valD kvs (.inr z)) μ
    | none => .no) := by
  simp only [oDGet, asK_ptr, keyD_str]
  cases dctAt μ i with
  | none => rfl
  | some kvs => cases e : valD kvs (.inr z) <;> simp [e, optR]
theorem oDIn_ptr {k : Bool} : oDIn k (.str z) (.ptr i) μ = (match dctAt μ i with
    | some kvs => .ok (.bl (k ^^ (valD kvs (.inr z)).isSome)) μ
    | none => .no) := by
  simp only [oDIn, asK_ptr, keyD_str]
  cases dctAt μ i <;> rfl
@[simp] theorem mDGet2_ap : mDGet2 a o c δ μ = (a δ μ).bind fun x μ1 => if (asK μ1 x).isSome = true then (o δ μ1).bind fun y μ2 => (c δ μ2).bind fun z μ3 => (match asK μ3 x, keyD y with
  | some kvs, some k => .ok ((valD kvs k).getD z) μ3
  | _, _ => .no) else .no := rfl
@[simp] theorem mDPop1_ap : mDPop1 a o δ μ = (a δ μ).bind fun x μ1 => if (asK μ1 x).isSome = true then (o δ μ1).bind fun y μ2 => (match x, asK μ2 x, keyD y with
  | .ptr i, some kvs, some k => (match valD kvs k with
    | some d => .ok d (μ2.set i (.dK (dropKD kvs k)))
    | none => .no)
  | _, _, _ => .no) else .no := rfl
@[simp] theorem sDPutM_ap : sDPutM a o c δ μ = (a δ μ).thn δ fun y μ1 => (o δ μ1).thn δ fun x μ2 => (c δ μ2).thn δ fun z μ3 => stPut δ y x z μ3 := rfl
theorem stPut_ptr : stPut δ y (.ptr i) (.str z) μ = (match dctAt μ i with
    | some kvs => if kvs.length ≤ 1000000 then .nx δ (μ.set i (.dK (putKD kvs (.inr z) y))) else .no
    | none => .no) := by
  simp only [stPut, asK_ptr, keyD_str]
  cases dctAt μ i <;> rfl
@[simp] theorem sStuck_ap : sStuck δ μ = .no := rfl
theorem O_no {h : Prop} [Decidable h] {a : O} (q : h) : (if h then a else O.no) = a := if_pos q
/-! loops that end at the first bad one -/
theorem forL_all {tg : MG} {body : MS} (I : DM.Env → Prop) (p : Dt → Bool) (N : Nat) {μ : Mem} : ∀ {ds : List Dt} {δ : DM.Env},
    (∀ d ∈ ds, ∀ δ, I δ → ∃ δ1, tg d δ μ = some δ1 ∧ (p d = true → ∃ δ', body δ1 μ = .nx δ' μ ∧ I δ') ∧ (p d = false → ∃ δ', body δ1 μ = .ex N [] [] δ' μ)) → I δ →
    (ds.all p = true → ∃ δ', forL tg body none ds δ μ = .nx δ' μ ∧ I δ') ∧ (ds.all p = false → ∃ δ', forL tg body none ds δ μ = .ex N [] [] δ' μ)
  | [], δ, _, h => ⟨fun _ => ⟨δ, by simp [forL], h⟩, fun e => by simp at e⟩
  | d :: ds, δ, hs, h => by
    obtain ⟨δ1, e1, y, n⟩ := hs d List.mem_cons_self δ h
    cases hp : p d with
    | true =>
      obtain ⟨δ2, e2, h2⟩ := y hp
      obtain ⟨y', n'⟩ := forL_all I p N (ds := ds) (fun d hd => hs d (List.mem_cons_of_mem _ hd)) h2
      refine ⟨fun e => ?_, fun e => ?_⟩
      · rw [List.all_cons, hp, Bool.true_and] at e
        obtain ⟨δ3, e3, h3⟩ := y' e
        exact ⟨δ3, by simp [forL, e1, e2, e3], h3⟩
      · rw [List.all_cons, hp, Bool.true_and] at e
        obtain ⟨δ3, e3⟩ := n' e
        exact ⟨δ3, by simp [forL, e1, e2, e3]⟩
    | false =>
      obtain ⟨δ2, e2⟩ := n hp
      refine ⟨fun e => ?_, fun e => ⟨δ2, by simp [forL, e1, e2]⟩⟩
      rw [List.all_cons, hp, Bool.false_and] at e
      cases e
end
end DM

set_option linter.all false
set_option maxRecDepth 100000
set_option maxHeartbeats 4000000
/-! DV: simp facts for DMD, DME, DMF. -/
namespace DM
open PySem PySem.Spec PyProof.Rows L2 TL TX LM
open Classical
section
variable {μ : Mem} {δ : DM.Env} {n i cn : Nat} {fr : List Str} {ma : MA} {md ds : List Dt} {d : Dt} {tb : Nat → Option (List Dt → Mem → R Dt)} {g : List Dt → Mem → R Dt}
@[simp] theorem sRaiseX_ap : sRaiseX n fr ma md δ μ = (ma δ μ).thn δ fun es μ1 => if (es ++ md).length = fr.length ∧ fr.length ≤ 900 then .ex n fr (es ++ md).reverse δ μ1 else .no := rfl
def lenR (r : R Dt) : R Dt := match r with
  | .ok (.int k) μ1 => if 0 ≤ k ∧ k ≤ 1000000000 then .ok (.int k) μ1 else .no
  | _ => .no
theorem cLenM_at {fs : List (Str × Dt)} {f : List Dt → Mem → R Dt} (h : μ[i]? = some (.ins cn fs)) (ht : tb cn = some f) : cLenM tb [.ptr i] μ = lenR (f [.ptr i] μ) := by
  simp only [cLenM, h, ht]
  rfl
theorem lenR_nat {k : Nat} (h : k ≤ 1000000000) : lenR (.ok (.int (k : Int)) μ) = .ok (.int (k : Int)) μ := by
  exact if_pos ⟨by omega, by omega⟩
theorem cLenD_ptr : cLenD [.ptr i] μ = (match dctAt μ i with
    | some kvs => .ok (.int kvs.length) μ
    | none => .no) := by
  simp only [cLenD, asK_ptr]
  first | done | (cases dctAt μ i <;> rfl)
@[simp] theorem cqL_nil : cqL [] n = none := rfl
theorem cqL_in {ks : List Nat} (h : ks.contains n = true) : cqL ks n = some true := if_pos h
theorem tbl1_same {cn : Nat} : tbl1 cn g cn = some g := if_pos rfl
end
end DM

set_option linter.all false
set_option maxRecDepth 100000
set_option maxHeartbeats 4000000
set_option pp.maxSteps 400
set_option pp.deepTerms false
namespace K15
open PySem PySem.Spec PyProof.Rows L2 DM TL TX LM
def topS (i : Nat) : Stmt := PySem.Challenge.pw_loadhall_k15_whole_stores_and_forms.main.body.getD i (.Pass ⟨0, 0, 0, 0⟩)
abbrev s_law_take : Stmt := topS 38
theorem sc_law_take : FnScope ["_law_pile", "_law_size", "_law_digit"] ["_law_pile", "_law_size"] (defScope s_law_take) := ⟨rfl, rfl, rfl, by decide +kernel, rfl, by decide +kernel, by decide +kernel⟩
abbrev s_is_part : Stmt := topS 10
theorem sc_is_part : FnScope ["thing", "sign"] ["thing"] (defScope s_is_part) := ⟨rfl, rfl, rfl, by decide +kernel, rfl, by decide +kernel, by decide +kernel⟩
abbrev s_is_name : Stmt := topS 11
theorem sc_is_name : FnScope ["thing", "parts", "part"] ["thing"] (defScope s_is_name) := ⟨rfl, rfl, rfl, by decide +kernel, rfl, by decide +kernel, by decide +kernel⟩
abbrev s_look_at_name : Stmt := topS 32
theorem sc_look_at_name : FnScope ["thing"] ["thing"] (defScope s_look_at_name) := ⟨rfl, rfl, rfl, by decide +kernel, rfl, by decide +kernel, by decide +kernel⟩
abbrev s_look_at_check : Stmt := topS 29
theorem sc_look_at_check : FnScope ["thing"] ["thing"] (defScope s_look_at_check) := ⟨rfl, rfl, rfl, by decide +kernel, rfl, by decide +kernel, by decide +kernel⟩
abbrev s_Forms___init__ : Stmt := inClass (topS 30) 0
theorem sc_Forms___init__ : FnScope ["self", "check"] ["self", "check"] (defScope s_Forms___init__) := ⟨rfl, rfl, rfl, by decide +kernel, rfl, by decide +kernel, by decide +kernel⟩
abbrev s_Store___init__ : Stmt := inClass (topS 33) 0
theorem sc_Store___init__ : FnScope ["self", "name"] ["self", "name"] (defScope s_Store___init__) := ⟨rfl, rfl, rfl, by decide +kernel, rfl, by decide +kernel, by decide +kernel⟩
abbrev s_Lists___init__ : Stmt := inClass (topS 34) 0
theorem sc_Lists___init__ : FnScope ["self"] ["self"] (defScope s_Lists___init__) := ⟨rfl, rfl, rfl, by decide +kernel, rfl, by decide +kernel, by decide +kernel⟩
abbrev s_NoBody___init__ : Stmt := inClass (topS 4) 0
theorem sc_NoBody___init__ : FnScope ["self", "row", "trail"] ["self", "row", "trail"] (defScope s_NoBody___init__) := ⟨rfl, rfl, rfl, by decide +kernel, rfl, by decide +kernel, by decide +kernel⟩
abbrev s_Store_put : Stmt := inClass (topS 33) 2
theorem sc_Store_put : FnScope ["self", "name", "text", "pack", "at"] ["self", "name", "text", "pack", "at"] (defScope s_Store_put) := ⟨rfl, rfl, rfl, by decide +kernel, rfl, by decide +kernel, by decide +kernel⟩
abbrev s_Store_entry : Stmt := inClass (topS 33) 4
theorem sc_Store_entry : FnScope ["self", "name"] ["self", "name"] (defScope s_Store_entry) := ⟨rfl, rfl, rfl, by decide +kernel, rfl, by decide +kernel, by decide +kernel⟩
abbrev s_NotFound___init__ : Stmt := inClass (topS 5) 0
theorem sc_NotFound___init__ : FnScope ["self", "name", "trail"] ["self", "name", "trail"] (defScope s_NotFound___init__) := ⟨rfl, rfl, rfl, by decide +kernel, rfl, by decide +kernel, by decide +kernel⟩
abbrev s_Forms_holds : Stmt := inClass (topS 30) 1
theorem sc_Forms_holds : FnScope ["self", "store", "name", "known", "lies"] ["self", "store", "name"] (defScope s_Forms_holds) := ⟨rfl, rfl, rfl, by decide +kernel, rfl, by decide +kernel, by decide +kernel⟩
abbrev s_is_bound : Stmt := topS 21
theorem sc_is_bound : FnScope ["words"] ["words"] (defScope s_is_bound) := ⟨rfl, rfl, rfl, by decide +kernel, rfl, by decide +kernel, by decide +kernel⟩
abbrev s_is_near : Stmt := topS 12
theorem sc_is_near : FnScope ["thing", "behind", "dots"] ["thing"] (defScope s_is_near) := ⟨rfl, rfl, rfl, by decide +kernel, rfl, by decide +kernel, by decide +kernel⟩
abbrev s_is_taken : Stmt := topS 22
theorem sc_is_taken : FnScope ["words"] ["words"] (defScope s_is_taken) := ⟨rfl, rfl, rfl, by decide +kernel, rfl, by decide +kernel, by decide +kernel⟩
abbrev s_is_number : Stmt := topS 18
theorem sc_is_number : FnScope ["word", "figures", "sign"] ["word"] (defScope s_is_number) := ⟨rfl, rfl, rfl, by decide +kernel, rfl, by decide +kernel, by decide +kernel⟩
abbrev s_is_sum : Stmt := topS 19
theorem sc_is_sum : FnScope ["word", "terms", "term"] ["word"] (defScope s_is_sum) := ⟨rfl, rfl, rfl, by decide +kernel, rfl, by decide +kernel, by decide +kernel⟩
abbrev s_are_unlike : Stmt := topS 20
theorem sc_are_unlike : FnScope ["words", "word"] ["words"] (defScope s_are_unlike) := ⟨rfl, rfl, rfl, by decide +kernel, rfl, by decide +kernel, by decide +kernel⟩
abbrev s_is_row : Stmt := topS 23
theorem sc_is_row : FnScope ["words", "word", "rest", "part"] ["words"] (defScope s_is_row) := ⟨rfl, rfl, rfl, by decide +kernel, rfl, by decide +kernel, by decide +kernel⟩
abbrev s_read_rows : Stmt := topS 24
theorem sc_read_rows : FnScope ["text", "most", "rows", "found", "place", "words", "row"] ["text", "most"] (defScope s_read_rows) := ⟨rfl, rfl, rfl, by decide +kernel, rfl, by decide +kernel, by decide +kernel⟩
abbrev s_read_body : Stmt := topS 25
theorem sc_read_body : FnScope ["text"] ["text"] (defScope s_read_body) := ⟨rfl, rfl, rfl, by decide +kernel, rfl, by decide +kernel, by decide +kernel⟩
abbrev s_Forms_form : Stmt := inClass (topS 30) 2
theorem sc_Forms_form : FnScope ["self", "store", "name", "lies", "rows"] ["self", "store", "name"] (defScope s_Forms_form) := ⟨rfl, rfl, rfl, by decide +kernel, rfl, by decide +kernel, by decide +kernel⟩
abbrev s_Forms_stale : Stmt := inClass (topS 30) 4
theorem sc_Forms_stale : FnScope ["self", "store", "found", "one", "name"] ["self", "store"] (defScope s_Forms_stale) := ⟨rfl, rfl, rfl, by decide +kernel, rfl, by decide +kernel, by decide +kernel⟩
abbrev s_Forms_drop : Stmt := inClass (topS 30) 3
theorem sc_Forms_drop : FnScope ["self", "store", "name", "found"] ["self", "store", "name"] (defScope s_Forms_drop) := ⟨rfl, rfl, rfl, by decide +kernel, rfl, by decide +kernel, by decide +kernel⟩
abbrev s_law_older_good : Stmt := topS 46
theorem sc_law_older_good : FnScope ["_law_store", "_law_forms", "_law_first", "_law_second"] ["_law_store", "_law_forms", "_law_first", "_law_second"] (defScope s_law_older_good) := ⟨rfl, rfl, rfl, by decide +kernel, rfl, by decide +kernel, by decide +kernel⟩
abbrev s_law_mixed : Stmt := topS 36
theorem sc_law_mixed : FnScope ["_law_cell_here", "_law_k", "_law_number"] ["_law_cell_here", "_law_k"] (defScope s_law_mixed) := ⟨rfl, rfl, rfl, by decide +kernel, rfl, by decide +kernel, by decide +kernel⟩
abbrev s_law_cell : Stmt := topS 37
theorem sc_law_cell : FnScope ["_law_script", "_law_k", "_law_cell_here", "_law_found", "_law_j"] ["_law_script", "_law_k"] (defScope s_law_cell) := ⟨rfl, rfl, rfl, by decide +kernel, rfl, by decide +kernel, by decide +kernel⟩
abbrev s_Lists_forget : Stmt := inClass (topS 34) 2
theorem sc_Lists_forget : FnScope ["self"] ["self"] (defScope s_Lists_forget) := ⟨rfl, rfl, rfl, by decide +kernel, rfl, by decide +kernel, by decide +kernel⟩
abbrev s_law_text_drawn : Stmt := topS 41
theorem sc_law_text_drawn : FnScope ["_law_pile", "_law_some"] ["_law_pile"] (defScope s_law_text_drawn) := ⟨rfl, rfl, rfl, by decide +kernel, rfl, by decide +kernel, by decide +kernel⟩
abbrev s_Store_take : Stmt := inClass (topS 33) 3
theorem sc_Store_take : FnScope ["self", "name", "at", "text", "rest"] ["self", "name", "at"] (defScope s_Store_take) := ⟨rfl, rfl, rfl, by decide +kernel, rfl, by decide +kernel, by decide +kernel⟩
abbrev s_law_deed : Stmt := topS 44
theorem sc_law_deed : FnScope ["_law_pile", "_law_store", "_law_stamp", "_law_name"] ["_law_pile", "_law_store", "_law_stamp"] (defScope s_law_deed) := ⟨rfl, rfl, rfl, by decide +kernel, rfl, by decide +kernel, by decide +kernel⟩
abbrev s_law_read : Stmt := topS 42
theorem sc_law_read : FnScope ["_law_text", "_law_found", "e"] ["_law_text"] (defScope s_law_read) := ⟨rfl, rfl, rfl, by decide +kernel, rfl, by decide +kernel, by decide +kernel⟩
abbrev s_Store_names : Stmt := inClass (topS 33) 5
theorem sc_Store_names : FnScope ["self"] ["self"] (defScope s_Store_names) := ⟨rfl, rfl, rfl, by decide +kernel, rfl, by decide +kernel, by decide +kernel⟩
abbrev s_Lists_listed : Stmt := inClass (topS 34) 1
theorem sc_Lists_listed : FnScope ["self", "store", "found"] ["self", "store"] (defScope s_Lists_listed) := ⟨rfl, rfl, rfl, by decide +kernel, rfl, by decide +kernel, by decide +kernel⟩
abbrev s_law_formed : Stmt := topS 43
theorem sc_law_formed : FnScope ["_law_forms", "_law_store", "_law_name", "_law_found", "e"] ["_law_forms", "_law_store", "_law_name"] (defScope s_law_formed) := ⟨rfl, rfl, rfl, by decide +kernel, rfl, by decide +kernel, by decide +kernel⟩
abbrev s_law_history_good : Stmt := topS 45
theorem sc_law_history_good : FnScope ["_law_script", "_law_start", "_law_many", "_law_own", "_law_stores", "_law_forms", "_law_lists", "_law_asked", "_law_k", "_law_stamp", "_law_name", "_law_lies", "_law_due", "_law_found", "_law_one"] ["_law_script", "_law_start", "_law_many", "_law_own"] (defScope s_law_history_good) := ⟨rfl, rfl, rfl, by decide +kernel, rfl, by decide +kernel, by decide +kernel⟩
abbrev s_law : Stmt := topS 47
theorem sc_law : FnScope ["_law_script", "_law_k", "_law_many", "_law_own", "_law_pair", "_law_first"] ["_law_script"] (defScope s_law) := ⟨rfl, rfl, rfl, by decide +kernel, rfl, by decide +kernel, by decide +kernel⟩
def tabO : List (Nat × Nat × Bool) := []
def tabT : List (Nat × String × Bool) := []
def tabX : List Nat := [5, 6]
def tab : Tab := tabOf tabX tabO tabT
def niL : List (Nat × Str) := [(14, "name"), (14, "bodies"), (14, "changed"), (15, "known"), (16, "check"), (16, "read"), (16, "made"), (16, "kept")]
def nxL : List (Nat × Str) := [(5, "row"), (5, "trail"), (6, "name"), (6, "trail")]
def ni : Nat → Str → Bool := fldT niL
def nx : Nat → Str → Bool := fldT nxL
structure Glb (Γ : Gm) (mg : Str → Option Value) : Prop where
  tab : TabOk Γ.K Γ tab
  ni : InsOk Γ.K Γ ni
  nx : NoOk Γ.K Γ nx
  z_isinstance : mg "isinstance" = none
  z_str : mg "str" = none
  z_len : mg "len" = none
  z_all : mg "all" = none
  z_tuple : mg "tuple" = none
  z_enumerate : mg "enumerate" = none
  z_list : mg "list" = none
  z_sorted : mg "sorted" = none
  z_range : mg "range" = none
  z_int : mg "int" = none
  z_max : mg "max" = none
  c_LONGEST : GC mg "LONGEST" (.int 8)
  c_SMALL : GC mg "SMALL" (.str "abcdefghijklmnopqrstuvwxyz")
  c_MOST_PARTS : GC mg "MOST_PARTS" (.int 4)
  c_MOST_FIGURES : GC mg "MOST_FIGURES" (.int 9)
  c_FIGURES : GC mg "FIGURES" (.str "0123456789")
  c_MOST_TERMS : GC mg "MOST_TERMS" (.int 8)
  g_NoLine : mg "NoLine" = some (.ref (Γ.c 4))
  g_NoBody : mg "NoBody" = some (.ref (Γ.c 5))
  g_NotFound : mg "NotFound" = some (.ref (Γ.c 6))
  g_Store : mg "Store" = some (.ref (Γ.c 14))
  g_Forms : mg "Forms" = some (.ref (Γ.c 16))
  g_Lists : mg "Lists" = some (.ref (Γ.c 15))
  g_CHECKS : mg "CHECKS" = some (.ref (Γ.c 64))
  kt_CHECKS : KTup Γ.K (Γ.c 64) [.str "stamp", .str "sum"]
  x_NoLine : PySem.W.excIn Γ.K (Γ.c 4) [.type "ValueError", .type "Exception", .type "BaseException", .type "object"] "ValueError.__new__" = true
  k_NoLine : PySem.W.keepIn Γ.K (.ref (Γ.c 4)) = true
  b_NoLine : PySem.W.subIn Γ.K (.ref (Γ.c 4)) (.type "BaseException") = some true
  t_NoLine : PySem.W.typeIn Γ.K (.ref (Γ.c 4)) = some (.type "type")
  e_NoBody : PySem.W.exmOne Γ.K (.ref (Γ.c 5)) (.ref (Γ.c 5)) = some true
  e_NotFound : PySem.W.exmOne Γ.K (.ref (Γ.c 6)) (.ref (Γ.c 6)) = some true
  q_NoBody : KTup Γ.K (Γ.c 37) []
  q_NotFound : KTup Γ.K (Γ.c 38) []
  z_LookupError : mg "LookupError" = none
  z_ValueError : mg "ValueError" = none
  p_NoBody_NotFound : PySem.W.exmOne Γ.K (.ref (Γ.c 5)) (.ref (Γ.c 6)) = some false
  p_NotFound_NoBody : PySem.W.exmOne Γ.K (.ref (Γ.c 6)) (.ref (Γ.c 5)) = some false
noncomputable def m_law_take : List Dt → Mem → R Dt := mDef 3 2 (sSeq (sAsg (mOp oMod (mOp oIx (mV 0) (mC (.int 0))) (mV 1)) (gSet 2))
    (sSeq (sSub (mOp oFdiv (mOp oIx (mV 0) (mC (.int 0))) (mV 1)) (mV 0) (mC (.int 0)))
    (sRet (mV 2))))
noncomputable def m_is_part : List Dt → Mem → R Dt := mDef 2 1 (sRet (mIf (mTest (mCB (cIsi tab) (mCons (mV 0) (mCons (mC (.ty "str")) mNil)))) (mIf (mTest (mChain oLe oLe (mC (.int 1)) (mCB cLen (mCons (mV 0) mNil)) (mC (.int 8)))) (mCB cAll (mCons (mLc (miStr (mV 0)) (gSet 1) mYes (mOp (oIn false) (mV 1) (mC (.str "abcdefghijklmnopqrstuvwxyz"))) [1]) mNil)) (mC (.bl false))) (mC (.bl false))))
noncomputable def m_is_name : List Dt → Mem → R Dt := mDef 3 1 (sSeq (sIf (mNot (mTest (mCB (cIsi tab) (mCons (mV 0) (mCons (mC (.ty "str")) mNil))))) (sRet (mC (.bl false))) sNext)
    (sSeq (sAsg (mBM "str" bSplit (mV 0) (mCons (mC (.str ".")) mNil)) (gSet 1))
    (sRet (mIf (mTest (mOp oLe (mCB cLen (mCons (mV 1) mNil)) (mC (.int 4)))) (mCB cAll (mCons (mLc (miList (mV 1)) (gSet 2) mYes (mCall 1 0 m_is_part [0] [] (mCons (mV 2) mNil) mNil) [2]) mNil)) (mC (.bl false))))))
noncomputable def m_look_at_name : List Dt → Mem → R Dt := mDef 1 1 (sIf (mNot (mTest (mCall 1 0 m_is_name [0] [] (mCons (mV 0) mNil) mNil))) sStuck sNext)
noncomputable def m_look_at_check : List Dt → Mem → R Dt := mDef 1 1 (sIf (mTest (mOp (oInT true) (mV 0) (mC (.ktp [.str "stamp", .str "sum"])))) (sRaise0 4) sNext)
noncomputable def m_Forms___init__ : List Dt → Mem → R Dt := mDef 2 2 (sSeq (sDrop (mCall 1 0 m_look_at_check [0] [] (mCons (mV 1) mNil) mNil))
    (sSeq (sFldM ni "check" (mV 1) (mV 0))
    (sSeq (sFldM ni "read" mTNew (mV 0))
    (sSeq (sFldM ni "made" (mC (.int 0)) (mV 0))
    (sFldM ni "kept" (mC (.int 0)) (mV 0))))))
noncomputable def m_Store___init__ : List Dt → Mem → R Dt := mDef 2 2 (sSeq (sIf (mNot (mTest (mCall 1 0 m_is_part [0] [] (mCons (mV 1) mNil) mNil))) sStuck sNext)
    (sSeq (sFldM ni "name" (mV 1) (mV 0))
    (sSeq (sFldM ni "bodies" mDNew (mV 0))
    (sFldM ni "changed" (mC (.int 0)) (mV 0)))))
noncomputable def m_Lists___init__ : List Dt → Mem → R Dt := mDef 1 1 (sFldM ni "known" mDNew (mV 0))
noncomputable def m_Store_put : List Dt → Mem → R Dt := mDef 5 5 (sSeq (sDrop (mCall 1 0 m_look_at_name [0] [] (mCons (mV 1) mNil) mNil))
    (sSeq (sIf (mNot (mTest (mCB (cIsi tab) (mCons (mV 2) (mCons (mC (.ty "str")) mNil))))) (sRaiseX 5 ["trail", "row"] (mCons (mC .non) mNil) [.ktp []]) sNext)
    (sSeq (sDPutM (mTup (mCons (mV 2) (mCons (mV 3) (mCons (mV 4) mNil)))) (mUn (oFld nx ni "bodies") (mV 0)) (mV 1))
    (sFldM ni "changed" (mV 4) (mV 0)))))
noncomputable def m_Store_entry : List Dt → Mem → R Dt := mDef 2 2 (sSeq (sDrop (mCall 1 0 m_look_at_name [0] [] (mCons (mV 1) mNil) mNil))
    (sRet (mDGet2 (mUn (oFld nx ni "bodies") (mV 0)) (mV 1) (mC .non))))
noncomputable def m_Forms_holds : List Dt → Mem → R Dt := mDef 5 3 (sSeq (sAsg (mTGet2 (mUn (oFld nx ni "read") (mV 0)) (mTup (mCons (mUn (oFld nx ni "name") (mV 1)) (mCons (mV 2) mNil))) (mC .non)) (gSet 3))
    (sSeq (sAsg (mMeth (tbl1 14 m_Store_entry) "entry" 1 0 [0, 1] [] (mV 1) (mCons (mV 2) mNil) mNil) (gSet 4))
    (sSeq (sIf (mOr (mTest (mOp oIsN (mV 3) (mC .non))) (mTest (mOp oIsN (mV 4) (mC .non)))) (sRet (mC (.bl false))) sNext)
    (sSeq (sIf (mTest (mOp oEq (mUn (oFld nx ni "check") (mV 0)) (mC (.str "sum")))) (sRet (mOp oEq (mOp oIx (mV 3) (mC (.int 0))) (mOp oIx (mV 4) (mC (.int 0))))) sNext)
    (sRet (mIf (mTest (mOp oEq (mOp oIx (mV 3) (mC (.int 1))) (mOp oIx (mV 4) (mC (.int 2))))) (mOp oEq (mCB cLen (mCons (mOp oIx (mV 3) (mC (.int 0))) mNil)) (mCB cLen (mCons (mOp oIx (mV 4) (mC (.int 0))) mNil))) (mC (.bl false))))))))
noncomputable def m_is_bound : List Dt → Mem → R Dt := mDef 1 1 (sRet (mIf (mTest (mOp oEq (mCB cLen (mCons (mV 0) mNil)) (mC (.int 3)))) (mIf (mTest (mCall 1 0 m_is_name [0] [] (mCons (mOp oIx (mV 0) (mC (.int 0))) mNil) mNil)) (mIf (mTest (mOp oEq (mOp oIx (mV 0) (mC (.int 1))) (mC (.str "as")))) (mCall 1 0 m_is_part [0] [] (mCons (mOp oIx (mV 0) (mC (.int 2))) mNil) mNil) (mC (.bl false))) (mC (.bl false))) (mC (.bl false))))
noncomputable def m_is_near : List Dt → Mem → R Dt := mDef 3 1 (sSeq (sIf (mNot (mTest (mCB (cIsi tab) (mCons (mV 0) (mCons (mC (.ty "str")) mNil))))) (sRet (mC (.bl false))) sNext)
    (sSeq (sAsg (mBM "str" bLstrip (mV 0) (mCons (mC (.str ".")) mNil)) (gSet 1))
    (sSeq (sAsg (mOp oSub (mCB cLen (mCons (mV 0) mNil)) (mCB cLen (mCons (mV 1) mNil))) (gSet 2))
    (sRet (mIf (mTest (mOp oLe (mV 2) (mC (.int 4)))) (mIf (mTest (mCall 1 0 m_is_name [0] [] (mCons (mV 1) mNil) mNil)) (mC (.bl true)) (mIf (mTest (mOp oEq (mV 1) (mC (.str "")))) (mOp oGt (mV 2) (mC (.int 0))) (mC (.bl false)))) (mC (.bl false)))))))
noncomputable def m_is_taken : List Dt → Mem → R Dt := mDef 1 1 (sSeq (sIf (mOr (mTest (mOp (oIn true) (mCB cLen (mCons (mV 0) mNil)) (mTup (mCons (mC (.int 3)) (mCons (mC (.int 5)) mNil))))) (mOr (mNot (mTest (mCall 1 0 m_is_near [0] [] (mCons (mOp oIx (mV 0) (mC (.int 0))) mNil) mNil))) (mOr (mTest (mOp oNe (mOp oIx (mV 0) (mC (.int 1))) (mC (.str "take")))) (mNot (mTest (mCall 1 0 m_is_part [0] [] (mCons (mOp oIx (mV 0) (mC (.int 2))) mNil) mNil)))))) (sRet (mC (.bl false))) sNext)
    (sSeq (sIf (mTest (mOp oEq (mCB cLen (mCons (mV 0) mNil)) (mC (.int 3)))) (sRet (mC (.bl true))) sNext)
    (sRet (mIf (mTest (mOp oNe (mOp oIx (mV 0) (mC (.int 2))) (mC (.str "all")))) (mIf (mTest (mOp oEq (mOp oIx (mV 0) (mC (.int 3))) (mC (.str "as")))) (mCall 1 0 m_is_part [0] [] (mCons (mOp oIx (mV 0) (mC (.int 4))) mNil) mNil) (mC (.bl false))) (mC (.bl false))))))
noncomputable def m_is_number : List Dt → Mem → R Dt := mDef 3 1 (sSeq (sAsg (mV 0) (gSet 1))
    (sSeq (sIf (mTest (mOp oEq (mSl oSl (mV 0) mNoPart (mPart (mC (.int 1)))) (mC (.str "-")))) (sAsg (mSl oSl (mV 0) (mPart (mC (.int 1))) mNoPart) (gSet 1)) sNext)
    (sSeq (sIf (mOr (mNot (mTest (mChain oLe oLe (mC (.int 1)) (mCB cLen (mCons (mV 1) mNil)) (mC (.int 9))))) (mNot (mTest (mCB cAll (mCons (mLc (miStr (mV 1)) (gSet 2) mYes (mOp (oIn false) (mV 2) (mC (.str "0123456789"))) [2]) mNil))))) (sRet (mC (.bl false))) sNext)
    (sRet (mIf (mTest (mOp oNe (mOp oIx (mV 1) (mC (.int 0))) (mC (.str "0")))) (mC (.bl true)) (mOp oEq (mV 0) (mC (.str "0"))))))))
noncomputable def m_is_sum : List Dt → Mem → R Dt := mDef 3 1 (sSeq (sAsg (mBM "str" bSplit (mV 0) (mCons (mC (.str "+")) mNil)) (gSet 1))
    (sRet (mIf (mTest (mOp oLe (mCB cLen (mCons (mV 1) mNil)) (mC (.int 8)))) (mCB cAll (mCons (mLc (miList (mV 1)) (gSet 2) mYes (mIf (mTest (mCall 1 0 m_is_number [0] [] (mCons (mV 2) mNil) mNil)) (mC (.bl true)) (mCall 1 0 m_is_name [0] [] (mCons (mV 2) mNil) mNil)) [2]) mNil)) (mC (.bl false)))))
noncomputable def m_are_unlike : List Dt → Mem → R Dt := mDef 2 1 sStuck
noncomputable def m_is_row : List Dt → Mem → R Dt := mDef 4 1 (sSeq (sAsg (mV 0) (gStarM (gSet 1) (gSet 2)))
    (sSeq (sIf (mTest (mOp (oIn false) (mV 1) (mTup (mCons (mC (.str "set")) (mCons (mC (.str "when")) mNil))))) (sRet (mIf (mTest (mOp oEq (mCB cLen (mCons (mV 2) mNil)) (mC (.int 2)))) (mIf (mTest (mCall 1 0 m_is_part [0] [] (mCons (mOp oIx (mV 2) (mC (.int 0))) mNil) mNil)) (mCall 1 0 m_is_sum [0] [] (mCons (mOp oIx (mV 2) (mC (.int 1))) mNil) mNil) (mC (.bl false))) (mC (.bl false)))) sNext)
    (sSeq (sIf (mTest (mOp (oIn false) (mV 1) (mTup (mCons (mC (.str "del")) (mCons (mC (.str "fail")) mNil))))) (sRet (mIf (mTest (mOp oEq (mCB cLen (mCons (mV 2) mNil)) (mC (.int 1)))) (mCall 1 0 m_is_part [0] [] (mCons (mOp oIx (mV 2) (mC (.int 0))) mNil) mNil) (mC (.bl false)))) sNext)
    (sSeq (sIf (mTest (mOp oEq (mV 1) (mC (.str "note")))) (sRet (mIf (mTest (mOp oEq (mCB cLen (mCons (mV 2) mNil)) (mC (.int 1)))) (mCall 1 0 m_is_sum [0] [] (mCons (mOp oIx (mV 2) (mC (.int 0))) mNil) mNil) (mC (.bl false)))) sNext)
    (sSeq (sIf (mTest (mOp oEq (mV 1) (mC (.str "show")))) (sRet (mIf (mTest (mOp oGt (mCB cLen (mCons (mV 2) mNil)) (mC (.int 0)))) (mIf (mTest (mCB cAll (mCons (mLc (miList (mV 2)) (gSet 3) mYes (mCall 1 0 m_is_part [0] [] (mCons (mV 3) mNil) mNil) [3]) mNil))) (mCall 1 0 m_are_unlike [0] [] (mCons (mV 2) mNil) mNil) (mC (.bl false))) (mC (.bl false)))) sNext)
    (sSeq (sIf (mTest (mOp (oIn false) (mV 1) (mTup (mCons (mC (.str "again")) (mCons (mC (.str "drop")) mNil))))) (sRet (mIf (mTest (mOp oEq (mCB cLen (mCons (mV 2) mNil)) (mC (.int 1)))) (mCall 1 0 m_is_name [0] [] (mCons (mOp oIx (mV 2) (mC (.int 0))) mNil) mNil) (mC (.bl false)))) sNext)
    (sSeq (sIf (mTest (mOp oEq (mV 1) (mC (.str "load")))) (sRet (mIf (mTest (mIf (mTest (mOp oEq (mCB cLen (mCons (mV 2) mNil)) (mC (.int 1)))) (mCall 1 0 m_is_name [0] [] (mCons (mOp oIx (mV 2) (mC (.int 0))) mNil) mNil) (mC (.bl false)))) (mC (.bl true)) (mCall 1 0 m_is_bound [0] [] (mCons (mV 2) mNil) mNil))) sNext)
    (sSeq (sIf (mTest (mOp (oIn false) (mV 1) (mTup (mCons (mC (.str "later")) (mCons (mC (.str "may")) mNil))))) (sRet (mCall 1 0 m_is_bound [0] [] (mCons (mV 2) mNil) mNil)) sNext)
    (sRet (mIf (mTest (mOp oEq (mV 1) (mC (.str "from")))) (mCall 1 0 m_is_taken [0] [] (mCons (mV 2) mNil) mNil) (mC (.bl false))))))))))))
noncomputable def b_read_rows_1 : MS := (sIf (mNot (mTest (mCall 1 0 m_is_row [0] [] (mCons (mV 5) mNil) mNil))) (sRaiseX 5 ["trail", "row"] (mCons (mV 4) mNil) [.ktp []]) sNext)
theorem b_read_rows_1_ap {δ : DM.Env} {μ : Mem} : b_read_rows_1 δ μ = (sIf (mNot (mTest (mCall 1 0 m_is_row [0] [] (mCons (mV 5) mNil) mNil))) (sRaiseX 5 ["trail", "row"] (mCons (mV 4) mNil) [.ktp []]) sNext) δ μ := rfl
noncomputable def m_read_rows : List Dt → Mem → R Dt := mDef 7 2 (sSeq (sIf (mNot (mTest (mCB (cIsi tab) (mCons (mV 0) (mCons (mC (.ty "str")) mNil))))) (sRaiseX 5 ["trail", "row"] (mCons (mC .non) mNil) [.ktp []]) sNext)
    (sSeq (sAsg (mLc (miList (mBM "str" bSplit (mV 0) (mCons (mC (.str "\n")) mNil))) (gSet 6) (mTest (mOp oNe (mV 0) (mC (.str "")))) (mV 6) [6]) (gSet 2))
    (sSeq (sIf (mTest (mOp oGt (mCB cLen (mCons (mV 2) mNil)) (mV 1))) (sRaiseX 5 ["trail", "row"] (mCons (mC .non) mNil) [.ktp []]) sNext)
    (sSeq (sAsg (mLc (miList (mV 2)) (gSet 6) mYes (mCB cTup (mCons (mBM "str" bSplit (mV 6) (mCons (mC (.str " ")) mNil)) mNil)) [6]) (gSet 3))
    (sSeq (sFor (miEnum (mCons (mV 3) mNil)) (gTupM 2 (gsCons (gSet 4) (gsCons (gSet 5) gsNil))) b_read_rows_1)
    (sRet (mV 3)))))))
noncomputable def m_read_body : List Dt → Mem → R Dt := mDef 1 1 (sRet (mCall 1 0 m_read_rows [0, 1] [.int 12] (mCons (mV 0) mNil) mNil))
noncomputable def m_Forms_form : List Dt → Mem → R Dt := mDef 5 3 (sSeq (sAsg (mMeth (tbl1 14 m_Store_entry) "entry" 1 0 [0, 1] [] (mV 1) (mCons (mV 2) mNil) mNil) (gSet 3))
    (sSeq (sIf (mTest (mOp oIsN (mV 3) (mC .non))) (sRaiseX 6 ["trail", "name"] (mCons (mV 2) mNil) [.ktp []]) sNext)
    (sSeq (sIf (mNot (mTest (mMeth (tbl1 16 m_Forms_holds) "holds" 2 0 [0, 1, 2] [] (mV 0) (mCons (mV 1) (mCons (mV 2) mNil)) mNil))) (sSeq (sAsg (mCB cTup (mCons (mCall 1 0 m_read_body [0] [] (mCons (mOp oIx (mV 3) (mC (.int 0))) mNil) mNil) mNil)) (gSet 4))
    (sSeq (sFldM ni "made" (mOp oAdd (mUn (oFld nx ni "made") (mV 0)) (mC (.int 1))) (mV 0))
    (sSeq (sTPutM (mTup (mCons (mOp oIx (mV 3) (mC (.int 0))) (mCons (mOp oIx (mV 3) (mC (.int 2))) (mCons (mV 4) mNil)))) (mUn (oFld nx ni "read") (mV 0)) (mTup (mCons (mUn (oFld nx ni "name") (mV 1)) (mCons (mV 2) mNil))))
    (sFldM ni "kept" (mCB cLenT (mCons (mUn (oFld nx ni "read") (mV 0)) mNil)) (mV 0))))) sNext)
    (sRet (mCB cLst (mCons (mOp oIx (mOp oTGet (mUn (oFld nx ni "read") (mV 0)) (mTup (mCons (mUn (oFld nx ni "name") (mV 1)) (mCons (mV 2) mNil)))) (mC (.int 2))) mNil))))))
noncomputable def m_Forms_stale : List Dt → Mem → R Dt := mDef 5 2 (sSeq (sLockT (mUn (oFld nx ni "read") (mV 0)) (sAsg (mLc (miKeysT (mUn (oFld nx ni "read") (mV 0))) (gTupM 2 (gsCons (gSet 3) (gsCons (gSet 4) gsNil))) (mAnd (mTest (mOp oEq (mV 3) (mUn (oFld nx ni "name") (mV 1)))) (mTest (mMeth (tbl1 16 m_Forms_holds) "holds" 2 0 [0, 1, 2] [] (mV 0) (mCons (mV 1) (mCons (mV 4) mNil)) mNil))) (mV 4) [3, 4]) (gSet 2)))
    (sRet (mCB cSort (mCons (mLc (miList (mV 2)) (gSet 4) (mTest (mOp oNe (mOp oIx (mOp oTGet (mUn (oFld nx ni "read") (mV 0)) (mTup (mCons (mUn (oFld nx ni "name") (mV 1)) (mCons (mV 4) mNil)))) (mC (.int 0))) (mOp oIx (mMeth (tbl1 14 m_Store_entry) "entry" 1 0 [0, 1] [] (mV 1) (mCons (mV 4) mNil) mNil) (mC (.int 0))))) (mV 4) [4]) mNil))))
noncomputable def m_Forms_drop : List Dt → Mem → R Dt := mDef 4 3 (sSeq (sAsg (mBM "dict" bTPop (mUn (oFld nx ni "read") (mV 0)) (mCons (mTup (mCons (mUn (oFld nx ni "name") (mV 1)) (mCons (mV 2) mNil))) (mCons (mC .non) mNil))) (gSet 3))
    (sSeq (sFldM ni "kept" (mCB cLenT (mCons (mUn (oFld nx ni "read") (mV 0)) mNil)) (mV 0))
    (sRet (mOp oNotN (mV 3) (mC .non)))))
noncomputable def m_law_older_good : List Dt → Mem → R Dt := mDef 4 4 (sSeq (sDrop (mMeth (tbl1 14 m_Store_put) "put" 2 1 [0, 1, 2, 3, 4] [.bl false] (mV 0) (mCons (mC (.str "a")) (mCons (mV 2) mNil)) (mCons (mC (.int 5)) mNil)))
    (sSeq (sIf (mTest (mOp oNe (mMeth (tbl1 16 m_Forms_form) "form" 2 0 [0, 1, 2] [] (mV 1) (mCons (mV 0) (mCons (mC (.str "a")) mNil)) mNil) (mCall 1 0 m_read_body [0] [] (mCons (mV 2) mNil) mNil))) (sRet (mC (.bl false))) sNext)
    (sSeq (sDrop (mMeth (tbl1 14 m_Store_put) "put" 2 1 [0, 1, 2, 3, 4] [.bl false] (mV 0) (mCons (mC (.str "a")) (mCons (mV 3) mNil)) (mCons (mC (.int 5)) mNil)))
    (sSeq (sIf (mOr (mTest (mOp oNe (mMeth (tbl1 16 m_Forms_form) "form" 2 0 [0, 1, 2] [] (mV 1) (mCons (mV 0) (mCons (mC (.str "a")) mNil)) mNil) (mCall 1 0 m_read_body [0] [] (mCons (mV 2) mNil) mNil))) (mTest (mOp oNe (mMeth (tbl1 16 m_Forms_stale) "stale" 1 0 [0, 1] [] (mV 1) (mCons (mV 0) mNil) mNil) (mLst (mCons (mC (.str "a")) mNil))))) (sRet (mC (.bl false))) sNext)
    (sSeq (sDrop (mMeth (tbl1 14 m_Store_put) "put" 2 1 [0, 1, 2, 3, 4] [.bl false] (mV 0) (mCons (mC (.str "a")) (mCons (mV 3) mNil)) (mCons (mC (.int 6)) mNil)))
    (sSeq (sIf (mOr (mTest (mOp oNe (mMeth (tbl1 16 m_Forms_form) "form" 2 0 [0, 1, 2] [] (mV 1) (mCons (mV 0) (mCons (mC (.str "a")) mNil)) mNil) (mCall 1 0 m_read_body [0] [] (mCons (mV 3) mNil) mNil))) (mTest (mOp oNe (mMeth (tbl1 16 m_Forms_stale) "stale" 1 0 [0, 1] [] (mV 1) (mCons (mV 0) mNil) mNil) (mLst mNil)))) (sRet (mC (.bl false))) sNext)
    (sSeq (sDrop (mMeth (tbl1 14 m_Store_put) "put" 2 1 [0, 1, 2, 3, 4] [.bl false] (mV 0) (mCons (mC (.str "a")) (mCons (mV 2) mNil)) (mCons (mC (.int 6)) mNil)))
    (sSeq (sIf (mOr (mTest (mOp oNe (mMeth (tbl1 16 m_Forms_form) "form" 2 0 [0, 1, 2] [] (mV 1) (mCons (mV 0) (mCons (mC (.str "a")) mNil)) mNil) (mCall 1 0 m_read_body [0] [] (mCons (mV 3) mNil) mNil))) (mTest (mOp (oIsB true) (mMeth (tbl1 16 m_Forms_drop) "drop" 2 0 [0, 1, 2] [] (mV 1) (mCons (mV 0) (mCons (mC (.str "a")) mNil)) mNil) (mC (.bl true))))) (sRet (mC (.bl false))) sNext)
    (sSeq (sIf (mTest (mOp oNe (mMeth (tbl1 16 m_Forms_form) "form" 2 0 [0, 1, 2] [] (mV 1) (mCons (mV 0) (mCons (mC (.str "a")) mNil)) mNil) (mCall 1 0 m_read_body [0] [] (mCons (mV 2) mNil) mNil))) (sRet (mC (.bl false))) sNext)
    (sSeq (sDrop (mMeth (tbl1 14 m_Store_put) "put" 2 1 [0, 1, 2, 3, 4] [.bl false] (mV 0) (mCons (mC (.str "a")) (mCons (mOp oAdd (mV 3) (mC (.str "\nnote 1"))) mNil)) (mCons (mC (.int 6)) mNil)))
    (sRet (mIf (mTest (mOp oEq (mMeth (tbl1 16 m_Forms_form) "form" 2 0 [0, 1, 2] [] (mV 1) (mCons (mV 0) (mCons (mC (.str "a")) mNil)) mNil) (mCall 1 0 m_read_body [0] [] (mCons (mOp oAdd (mV 3) (mC (.str "\nnote 1"))) mNil) mNil))) (mOp oEq (mUn (oFld nx ni "kept") (mV 1)) (mC (.int 1))) (mC (.bl false))))))))))))))
noncomputable def m_law_mixed : List Dt → Mem → R Dt := mDef 3 2 (sSeq (sAsg (mOp oMod (mOp oAdd (mOp oAdd (mOp oMul (mOp oMod (mV 0) (mC (.int 2147483647))) (mC (.int 48271))) (mOp oMul (mV 1) (mC (.int 69621)))) (mC (.int 1048583))) (mC (.int 2147483629))) (gSet 2))
    (sSeq (sAsg (mOp oMod (mOp oMul (mV 2) (mV 2)) (mC (.int 2147483587))) (gSet 2))
    (sRet (mOp oMod (mOp oMul (mV 2) (mOp oAdd (mV 2) (mC (.int 2)))) (mC (.int 2147483579))))))
noncomputable def b_law_cell_1 : MS := (sAsg (mOp oAdd (mOp oMul (mV 3) (mC (.int 2147483579))) (mCall 2 0 m_law_mixed [0, 1] [] (mCons (mV 2) (mCons (mOp oAdd (mOp oAdd (mOp oMul (mC (.int 7)) (mV 1)) (mOp oMul (mC (.int 100)) (mV 4))) (mOp oMul (mV 4) (mV 4))) mNil)) mNil)) (gSet 3))
theorem b_law_cell_1_ap {δ : DM.Env} {μ : Mem} : b_law_cell_1 δ μ = (sAsg (mOp oAdd (mOp oMul (mV 3) (mC (.int 2147483579))) (mCall 2 0 m_law_mixed [0, 1] [] (mCons (mV 2) (mCons (mOp oAdd (mOp oAdd (mOp oMul (mC (.int 7)) (mV 1)) (mOp oMul (mC (.int 100)) (mV 4))) (mOp oMul (mV 4) (mV 4))) mNil)) mNil)) (gSet 3)) δ μ := rfl
noncomputable def m_law_cell : List Dt → Mem → R Dt := mDef 5 2 (sSeq (sAsg (mC (.int 0)) (gSet 2))
    (sSeq (sIf (mTest (mOp oLt (mV 1) (mCB cLen (mCons (mV 0) mNil)))) (sAsg (mOp oIx (mV 0) (mV 1)) (gSet 2)) sNext)
    (sSeq (sIf (mTest (mOp oGe (mV 2) (mOp oPow (mC (.int 10)) (mC (.int 18))))) (sRet (mOp oMod (mOp oSub (mV 2) (mOp oPow (mC (.int 10)) (mC (.int 18)))) (mOp oMul (mOp oMul (mOp oMul (mOp oPow (mC (.int 10)) (mC (.int 60))) (mOp oPow (mC (.int 10)) (mC (.int 60)))) (mOp oPow (mC (.int 10)) (mC (.int 60)))) (mOp oPow (mC (.int 10)) (mC (.int 60)))))) sNext)
    (sSeq (sAsg (mC (.int 0)) (gSet 3))
    (sSeq (sFor (miRng1 (mCons (mC (.int 24)) mNil)) (gSet 4) b_law_cell_1)
    (sRet (mV 3)))))))
noncomputable def m_Lists_forget : List Dt → Mem → R Dt := mDef 1 1 (sFldM ni "known" mDNew (mV 0))
noncomputable def m_law_text_drawn : List Dt → Mem → R Dt := mDef 2 1 (sSeq (sAsg (mLst (mCons (mC (.str "")) (mCons (mC (.str "set a 1")) (mCons (mC (.str "set a 2")) (mCons (mC (.str "set b 1")) (mCons (mC (.str "note 7")) (mCons (mC (.str "set")) (mCons (mC (.str "x y")) (mCons (mC (.str "load a")) mNil))))))))) (gSet 1))
    (sSeq (sAsg (mOp oAdd (mV 1) (mLst (mCons (mC (.str "set a 1\nnote a")) (mCons (mC (.str "fail now")) (mCons (mC (.str "set a 12")) mNil))))) (gSet 1))
    (sRet (mOp oIx (mV 1) (mCall 2 0 m_law_take [0, 1] [] (mCons (mV 0) (mCons (mC (.int 11)) mNil)) mNil)))))
noncomputable def m_Store_take : List Dt → Mem → R Dt := mDef 5 3 (sSeq (sDrop (mCall 1 0 m_look_at_name [0] [] (mCons (mV 1) mNil) mNil))
    (sSeq (sIf (mTest (mOp (oDIn true) (mV 1) (mUn (oFld nx ni "bodies") (mV 0)))) (sRaiseX 6 ["trail", "name"] (mCons (mV 1) mNil) [.ktp []]) sNext)
    (sSeq (sAsg (mDPop1 (mUn (oFld nx ni "bodies") (mV 0)) (mV 1)) (gStarM (gSet 3) (gSet 4)))
    (sSeq (sFldM ni "changed" (mV 2) (mV 0))
    (sRet (mV 3))))))
noncomputable def m_law_deed : List Dt → Mem → R Dt := mDef 4 3 (sSeq (sAsg (mOp oIx (mLst (mCons (mC (.str "a")) (mCons (mC (.str "b")) (mCons (mC (.str "a.b")) mNil)))) (mCall 2 0 m_law_take [0, 1] [] (mCons (mV 0) (mCons (mC (.int 3)) mNil)) mNil)) (gSet 3))
    (sSeq (sIf (mTest (mOp oGt (mCall 2 0 m_law_take [0, 1] [] (mCons (mV 0) (mCons (mC (.int 4)) mNil)) mNil) (mC (.int 0)))) (sDrop (mMeth (tbl1 14 m_Store_put) "put" 2 1 [0, 1, 2, 3, 4] [.bl false] (mV 1) (mCons (mV 3) (mCons (mCall 1 0 m_law_text_drawn [0] [] (mCons (mV 0) mNil) mNil) mNil)) (mCons (mV 2) mNil))) (sIf (mTest (mOp oNotN (mMeth (tbl1 14 m_Store_entry) "entry" 1 0 [0, 1] [] (mV 1) (mCons (mV 3) mNil) mNil) (mC .non))) (sDrop (mMeth (tbl1 14 m_Store_take) "take" 1 1 [0, 1, 2] [] (mV 1) (mCons (mV 3) mNil) (mCons (mV 2) mNil))) sNext))
    (sRet (mV 3))))
noncomputable def m_law_read : List Dt → Mem → R Dt := mDef 3 1 (sSeq (sAsg (mC .non) (gSet 1))
    (sSeq (sTry (cqSelf 5) 2 (sAsg (mCall 1 0 m_read_body [0] [] (mCons (mV 0) mNil) mNil) (gSet 1)) (sAsg (mUn (oFld nx ni "row") (mV 2)) (gSet 1)))
    (sRet (mV 1))))
noncomputable def m_Store_names : List Dt → Mem → R Dt := mDef 1 1 (sRet (mCB cSort (mCons (mUn (oFld nx ni "bodies") (mV 0)) mNil)))
noncomputable def m_Lists_listed : List Dt → Mem → R Dt := mDef 3 2 (sSeq (sAsg (mDGet2 (mUn (oFld nx ni "known") (mV 0)) (mUn (oFld nx ni "name") (mV 1)) (mC .non)) (gSet 2))
    (sSeq (sIf (mOr (mTest (mOp oIsN (mV 2) (mC .non))) (mTest (mOp oNe (mOp oIx (mV 2) (mC (.int 0))) (mUn (oFld nx ni "changed") (mV 1))))) (sSeq (sAsg (mTup (mCons (mUn (oFld nx ni "changed") (mV 1)) (mCons (mCB cTup (mCons (mMeth (tbl1 14 m_Store_names) "names" 0 0 [0] [] (mV 1) mNil mNil) mNil)) mNil))) (gSet 2))
    (sDPutM (mV 2) (mUn (oFld nx ni "known") (mV 0)) (mUn (oFld nx ni "name") (mV 1)))) sNext)
    (sRet (mCB cLst (mCons (mOp oIx (mV 2) (mC (.int 1))) mNil)))))
noncomputable def m_law_formed : List Dt → Mem → R Dt := mDef 5 3 (sSeq (sAsg (mC .non) (gSet 3))
    (sSeq (sTry2 (cqTwo 5 6) 4 (cqTwo 6 5) (sAsg (mMeth (tbl1 16 m_Forms_form) "form" 2 0 [0, 1, 2] [] (mV 0) (mCons (mV 1) (mCons (mV 2) mNil)) mNil) (gSet 3)) (sAsg (mUn (oFld nx ni "row") (mV 4)) (gSet 3)) (sAsg (mC (.str "none")) (gSet 3)))
    (sRet (mV 3))))
noncomputable def b_law_history_good_1 : MS := (sSeq (sAsg (mOp oIx (mLst (mCons (mOp oMod (mOp oFdiv (mV 8) (mC (.int 3))) (mC (.int 2))) (mCons (mOp oAdd (mV 8) (mC (.int 1))) mNil))) (mCB cInt (mCons (mV 3) mNil))) (gSet 9))
    (sSeq (sAsg (mCall 3 0 m_law_deed [0, 1, 2] [] (mCons (mNew (mCons (mCall 2 0 m_law_cell [0, 1] [] (mCons (mV 0) (mCons (mOp oAdd (mV 1) (mV 8)) mNil)) mNil) mNil)) (mCons (mOp oIx (mV 4) (mC (.int 0))) (mCons (mV 9) mNil))) mNil) (gSet 10))
    (sSeq (sDrop (mCall 3 0 m_law_deed [0, 1, 2] [] (mCons (mNew (mCons (mCall 2 0 m_law_cell [0, 1] [] (mCons (mV 0) (mCons (mOp oAdd (mV 1) (mV 8)) mNil)) mNil) mNil)) (mCons (mOp oIx (mV 4) (mC (.int 1))) (mCons (mV 9) mNil))) mNil))
    (sSeq (sAsg (mMeth (tbl1 14 m_Store_entry) "entry" 1 0 [0, 1] [] (mOp oIx (mV 4) (mC (.int 0))) (mCons (mV 10) mNil) mNil) (gSet 11))
    (sSeq (sAsg (mC (.str "none")) (gSet 12))
    (sSeq (sIf (mTest (mOp oNotN (mV 11) (mC .non))) (sAsg (mCall 1 0 m_law_read [0] [] (mCons (mOp oIx (mV 11) (mC (.int 0))) mNil) mNil) (gSet 12)) sNext)
    (sSeq (sAsg (mOp oAdd (mLc (miList (mSl oSl (mV 5) mNoPart (mPart (mC (.int 2))))) (gSet 14) mYes (mCall 3 0 m_law_formed [0, 1, 2] [] (mCons (mV 14) (mCons (mOp oIx (mV 4) (mC (.int 0))) (mCons (mV 10) mNil))) mNil) [14]) (mLst (mCons (mCall 3 0 m_law_formed [0, 1, 2] [] (mCons (mOp oIx (mV 5) (mC (.int 2))) (mCons (mOp oIx (mV 4) (mC (.int 1))) (mCons (mV 10) mNil))) mNil) mNil))) (gSet 13))
    (sSeq (sAsg (mOp oAdd (mV 7) (mC (.int 1))) (gSet 7))
    (sSeq (sIf (mOr (mTest (mOp oNe (mOp oIx (mV 13) (mC (.int 0))) (mV 12))) (mOr (mTest (mOp oNe (mOp oIx (mV 13) (mC (.int 1))) (mOp oIx (mV 13) (mC (.int 2))))) (mTest (mOp oNe (mMeth (tbl1 16 m_Forms_stale) "stale" 1 0 [0, 1] [] (mOp oIx (mV 5) (mC (.int 0))) (mCons (mOp oIx (mV 4) (mC (.int 0))) mNil) mNil) (mLst mNil))))) (sRet (mC (.bl false))) sNext)
    (sSeq (sIf (mAnd (mTest (mV 3)) (mOr (mTest (mOp oNe (mOp oIx (mV 13) (mC (.int 1))) (mV 12))) (mTest (mOp oNe (mMeth (tbl1 16 m_Forms_stale) "stale" 1 0 [0, 1] [] (mOp oIx (mV 5) (mC (.int 1))) (mCons (mOp oIx (mV 4) (mC (.int 0))) mNil) mNil) (mLst mNil))))) (sRet (mC (.bl false))) sNext)
    (sSeq (sIf (mAnd (mTest (mV 3)) (mTest (mOp oNe (mMeth (tbl1 15 m_Lists_listed) "listed" 1 0 [0, 1] [] (mV 6) (mCons (mOp oIx (mV 4) (mC (.int 0))) mNil) mNil) (mMeth (tbl1 14 m_Store_names) "names" 0 0 [0] [] (mOp oIx (mV 4) (mC (.int 0))) mNil mNil)))) (sRet (mC (.bl false))) sNext)
    (sSeq (sIf (mOr (mTest (mOp oGt (mCB cMax (mCons (mUn (oFld nx ni "made") (mOp oIx (mV 5) (mC (.int 0)))) (mCons (mUn (oFld nx ni "made") (mOp oIx (mV 5) (mC (.int 1)))) mNil))) (mV 7))) (mTest (mOp oNe (mUn (oFld nx ni "made") (mOp oIx (mV 5) (mC (.int 1)))) (mUn (oFld nx ni "made") (mOp oIx (mV 5) (mC (.int 2))))))) (sRet (mC (.bl false))) sNext)
    (sIf (mTest (mOp oNe (mMeth (tbl1 16 m_Forms_stale) "stale" 1 0 [0, 1] [] (mOp oIx (mV 5) (mC (.int 1))) (mCons (mOp oIx (mV 4) (mC (.int 0))) mNil) mNil) (mMeth (tbl1 16 m_Forms_stale) "stale" 1 0 [0, 1] [] (mOp oIx (mV 5) (mC (.int 2))) (mCons (mOp oIx (mV 4) (mC (.int 1))) mNil) mNil))) (sRet (mC (.bl false))) sNext)))))))))))))
theorem b_law_history_good_1_ap {δ : DM.Env} {μ : Mem} : b_law_history_good_1 δ μ = (sSeq (sAsg (mOp oIx (mLst (mCons (mOp oMod (mOp oFdiv (mV 8) (mC (.int 3))) (mC (.int 2))) (mCons (mOp oAdd (mV 8) (mC (.int 1))) mNil))) (mCB cInt (mCons (mV 3) mNil))) (gSet 9))
    (sSeq (sAsg (mCall 3 0 m_law_deed [0, 1, 2] [] (mCons (mNew (mCons (mCall 2 0 m_law_cell [0, 1] [] (mCons (mV 0) (mCons (mOp oAdd (mV 1) (mV 8)) mNil)) mNil) mNil)) (mCons (mOp oIx (mV 4) (mC (.int 0))) (mCons (mV 9) mNil))) mNil) (gSet 10))
    (sSeq (sDrop (mCall 3 0 m_law_deed [0, 1, 2] [] (mCons (mNew (mCons (mCall 2 0 m_law_cell [0, 1] [] (mCons (mV 0) (mCons (mOp oAdd (mV 1) (mV 8)) mNil)) mNil) mNil)) (mCons (mOp oIx (mV 4) (mC (.int 1))) (mCons (mV 9) mNil))) mNil))
    (sSeq (sAsg (mMeth (tbl1 14 m_Store_entry) "entry" 1 0 [0, 1] [] (mOp oIx (mV 4) (mC (.int 0))) (mCons (mV 10) mNil) mNil) (gSet 11))
    (sSeq (sAsg (mC (.str "none")) (gSet 12))
    (sSeq (sIf (mTest (mOp oNotN (mV 11) (mC .non))) (sAsg (mCall 1 0 m_law_read [0] [] (mCons (mOp oIx (mV 11) (mC (.int 0))) mNil) mNil) (gSet 12)) sNext)
    (sSeq (sAsg (mOp oAdd (mLc (miList (mSl oSl (mV 5) mNoPart (mPart (mC (.int 2))))) (gSet 14) mYes (mCall 3 0 m_law_formed [0, 1, 2] [] (mCons (mV 14) (mCons (mOp oIx (mV 4) (mC (.int 0))) (mCons (mV 10) mNil))) mNil) [14]) (mLst (mCons (mCall 3 0 m_law_formed [0, 1, 2] [] (mCons (mOp oIx (mV 5) (mC (.int 2))) (mCons (mOp oIx (mV 4) (mC (.int 1))) (mCons (mV 10) mNil))) mNil) mNil))) (gSet 13))
    (sSeq (sAsg (mOp oAdd (mV 7) (mC (.int 1))) (gSet 7))
    (sSeq (sIf (mOr (mTest (mOp oNe (mOp oIx (mV 13) (mC (.int 0))) (mV 12))) (mOr (mTest (mOp oNe (mOp oIx (mV 13) (mC (.int 1))) (mOp oIx (mV 13) (mC (.int 2))))) (mTest (mOp oNe (mMeth (tbl1 16 m_Forms_stale) "stale" 1 0 [0, 1] [] (mOp oIx (mV 5) (mC (.int 0))) (mCons (mOp oIx (mV 4) (mC (.int 0))) mNil) mNil) (mLst mNil))))) (sRet (mC (.bl false))) sNext)
    (sSeq (sIf (mAnd (mTest (mV 3)) (mOr (mTest (mOp oNe (mOp oIx (mV 13) (mC (.int 1))) (mV 12))) (mTest (mOp oNe (mMeth (tbl1 16 m_Forms_stale) "stale" 1 0 [0, 1] [] (mOp oIx (mV 5) (mC (.int 1))) (mCons (mOp oIx (mV 4) (mC (.int 0))) mNil) mNil) (mLst mNil))))) (sRet (mC (.bl false))) sNext)
    (sSeq (sIf (mAnd (mTest (mV 3)) (mTest (mOp oNe (mMeth (tbl1 15 m_Lists_listed) "listed" 1 0 [0, 1] [] (mV 6) (mCons (mOp oIx (mV 4) (mC (.int 0))) mNil) mNil) (mMeth (tbl1 14 m_Store_names) "names" 0 0 [0] [] (mOp oIx (mV 4) (mC (.int 0))) mNil mNil)))) (sRet (mC (.bl false))) sNext)
    (sSeq (sIf (mOr (mTest (mOp oGt (mCB cMax (mCons (mUn (oFld nx ni "made") (mOp oIx (mV 5) (mC (.int 0)))) (mCons (mUn (oFld nx ni "made") (mOp oIx (mV 5) (mC (.int 1)))) mNil))) (mV 7))) (mTest (mOp oNe (mUn (oFld nx ni "made") (mOp oIx (mV 5) (mC (.int 1)))) (mUn (oFld nx ni "made") (mOp oIx (mV 5) (mC (.int 2))))))) (sRet (mC (.bl false))) sNext)
    (sIf (mTest (mOp oNe (mMeth (tbl1 16 m_Forms_stale) "stale" 1 0 [0, 1] [] (mOp oIx (mV 5) (mC (.int 1))) (mCons (mOp oIx (mV 4) (mC (.int 0))) mNil) mNil) (mMeth (tbl1 16 m_Forms_stale) "stale" 1 0 [0, 1] [] (mOp oIx (mV 5) (mC (.int 2))) (mCons (mOp oIx (mV 4) (mC (.int 1))) mNil) mNil))) (sRet (mC (.bl false))) sNext))))))))))))) δ μ := rfl
noncomputable def m_law_history_good : List Dt → Mem → R Dt := mDef 15 4 (sSeq (sAsg (mLst (mCons (mMake 14 1 0 m_Store___init__ [0, 1] [] (mCons (mC (.str "one")) mNil) mNil) (mCons (mMake 14 1 0 m_Store___init__ [0, 1] [] (mCons (mC (.str "one")) mNil) mNil) mNil))) (gSet 4))
    (sSeq (sAsg (mLst (mCons (mMake 16 0 1 m_Forms___init__ [0, 1] [] mNil (mCons (mC (.str "sum")) mNil)) (mCons (mMake 16 0 1 m_Forms___init__ [0, 1] [] mNil (mCons (mC (.str "stamp")) mNil)) (mCons (mMake 16 0 1 m_Forms___init__ [0, 1] [] mNil (mCons (mC (.str "stamp")) mNil)) mNil)))) (gSet 5))
    (sSeq (sAsg (mMake 15 0 0 m_Lists___init__ [0] [] mNil mNil) (gSet 6))
    (sSeq (sAsg (mC (.int 0)) (gSet 7))
    (sSeq (sFor (miRng1 (mCons (mV 2) mNil)) (gSet 8) b_law_history_good_1)
    (sSeq (sDrop (mMeth (tbl1 15 m_Lists_forget) "forget" 0 0 [0] [] (mV 6) mNil mNil))
    (sRet (mIf (mTest (mOp oEq (mMeth (tbl1 15 m_Lists_listed) "listed" 1 0 [0, 1] [] (mV 6) (mCons (mOp oIx (mV 4) (mC (.int 0))) mNil) mNil) (mMeth (tbl1 14 m_Store_names) "names" 0 0 [0] [] (mOp oIx (mV 4) (mC (.int 1))) mNil mNil))) (mOp oEq (mMeth (tbl1 15 m_Lists_listed) "listed" 1 0 [0, 1] [] (mMake 15 0 0 m_Lists___init__ [0] [] mNil mNil) (mCons (mOp oIx (mV 4) (mC (.int 0))) mNil) mNil) (mMeth (tbl1 14 m_Store_names) "names" 0 0 [0] [] (mOp oIx (mV 4) (mC (.int 0))) mNil mNil)) (mC (.bl false))))))))))
noncomputable def b_law_2 : MS := (sIf (mNot (mTest (mCall 4 0 m_law_history_good [0, 1, 2, 3] [] (mCons (mV 0) (mCons (mOp oAdd (mC (.int 2)) (mOp oMul (mC (.int 30)) (mV 1))) (mCons (mV 2) (mCons (mV 3) mNil)))) mNil))) (sRet (mC (.bl false))) sNext)
theorem b_law_2_ap {δ : DM.Env} {μ : Mem} : b_law_2 δ μ = (sIf (mNot (mTest (mCall 4 0 m_law_history_good [0, 1, 2, 3] [] (mCons (mV 0) (mCons (mOp oAdd (mC (.int 2)) (mOp oMul (mC (.int 30)) (mV 1))) (mCons (mV 2) (mCons (mV 3) mNil)))) mNil))) (sRet (mC (.bl false))) sNext) δ μ := rfl
noncomputable def b_law_1 : MS := (sSeq (sAsg (mOp oAdd (mC (.int 1)) (mCall 2 0 m_law_take [0, 1] [] (mCons (mNew (mCons (mCall 2 0 m_law_cell [0, 1] [] (mCons (mV 0) (mCons (mV 1) mNil)) mNil) mNil)) (mCons (mC (.int 30)) mNil)) mNil)) (gSet 2))
    (sFor (miTup (mTup (mCons (mC (.bl true)) (mCons (mC (.bl false)) mNil)))) (gSet 3) b_law_2))
theorem b_law_1_ap {δ : DM.Env} {μ : Mem} : b_law_1 δ μ = (sSeq (sAsg (mOp oAdd (mC (.int 1)) (mCall 2 0 m_law_take [0, 1] [] (mCons (mNew (mCons (mCall 2 0 m_law_cell [0, 1] [] (mCons (mV 0) (mCons (mV 1) mNil)) mNil) mNil)) (mCons (mC (.int 30)) mNil)) mNil)) (gSet 2))
    (sFor (miTup (mTup (mCons (mC (.bl true)) (mCons (mC (.bl false)) mNil)))) (gSet 3) b_law_2)) δ μ := rfl
noncomputable def m_law : List Dt → Mem → R Dt := mDef 6 1 (sSeq (sFor (miRng1 (mCons (mC (.int 2)) mNil)) (gSet 1) b_law_1)
    (sSeq (sAsg (mCall 2 0 m_law_take [0, 1] [] (mCons (mNew (mCons (mCall 2 0 m_law_cell [0, 1] [] (mCons (mV 0) (mCons (mC (.int 62)) mNil)) mNil) mNil)) (mCons (mC (.int 3)) mNil)) mNil) (gSet 4))
    (sSeq (sAsg (mOp oIx (mLst (mCons (mC (.str "set a 1")) (mCons (mC (.str "note 12")) (mCons (mC (.str "load ab")) mNil)))) (mV 4)) (gSet 5))
    (sRet (mCall 4 0 m_law_older_good [0, 1, 2, 3] [] (mCons (mMake 14 1 0 m_Store___init__ [0, 1] [] (mCons (mC (.str "s")) mNil) mNil) (mCons (mMake 16 0 0 m_Forms___init__ [0, 1] [.str "stamp"] mNil mNil) (mCons (mV 5) (mCons (mOp oIx (mLst (mCons (mC (.str "set b 2")) (mCons (mC (.str "note 34")) (mCons (mC (.str "drop cd")) mNil)))) (mV 4)) mNil)))) mNil)))))
section
variable {P : Program} {w : World} {Γ : Gm} {mg : Str → Option Value} {base : Heap}
theorem ok_law_take {f : Addr} {fd : FuncData} (F : FunD Γ.K "_law_take" "_law_take" (defArgs s_law_take) (defBody s_law_take) (defScope s_law_take) [] [] f fd) (T : Glb Γ mg)  : FnOk P w Γ.K mg base (L2.CX P w) 1 f fd ["_law_pile", "_law_size"] (FM Γ m_law_take) := by
  refine okN F sc_law_take (fun cdv A outer s H E hr => ?_)
  have hu := hr.units
  have nd := sc_law_take.nd
  have tk : Takes (cxOf (L2.CX P w) P w Γ.K mg base ["_law_pile", "_law_size", "_law_digit"] "_law_take" (defScope s_law_take) f cdv A outer s H E) (fun cls d _ H => E cls d H) := takes_of rfl rfl rfl rfl
  exact ⟨_, (pss_cons (ps_set (i := 2) nd rfl (Or.inl rfl) (pe_op op_modN (pe_ix (k_ix (K := Γ.K) rfl) (pv 0) pe_int (fun _ _ => rfl)) (pv 1)))
      (pss_cons (ps_asg (pe_op op_fdivN (pe_ix (k_ix (K := Γ.K) rfl) (pv 0) pe_int (fun _ _ => rfl)) (pv 1)) (pg_sub (pv 0) pe_int set_list))
      (pss_one (ps_ret (pv 2))))), (sv_seq (sv_asg (ev_op ro_mod (ev_op ro_ix (ev_v 0) ev_int) (ev_v 1)) gv_name)
      (sv_seq (sv_sub (ev_op ro_fdiv (ev_op ro_ix (ev_v 0) ev_int) (ev_v 1)) (ev_v 0) ev_int)
      (sv_ret (ev_v 2))))⟩
theorem ok_is_part {f : Addr} {fd : FuncData} (F : FunD Γ.K "is_part" "is_part" (defArgs s_is_part) (defBody s_is_part) (defScope s_is_part) [] [] f fd) (T : Glb Γ mg)  : FnOk P w Γ.K mg base (L2.CX P w) 1 f fd ["thing"] (FM Γ m_is_part) := by
  refine okN F sc_is_part (fun cdv A outer s H E hr => ?_)
  have hu := hr.units
  have nd := sc_is_part.nd
  have tk : Takes (cxOf (L2.CX P w) P w Γ.K mg base ["thing", "sign"] "is_part" (defScope s_is_part) f cdv A outer s H E) (fun cls d _ H => E cls d H) := takes_of rfl rfl rfl rfl
  exact ⟨_, (pss_one (ps_ret (pe_and (pe_callB (k_isU (K := Γ.K) rfl) (by rfl) T.z_isinstance (by decide +kernel) (pa_cons (pv 0) (pa_cons (pe_bltn (v := .ty "str") (by rfl) T.z_str (by decide +kernel) rfl) pa_nil))) (pe_and (pe_chain op_le op_le pe_int (pe_callB (k_len (K := Γ.K) rfl) (by rfl) T.z_len (by decide +kernel) (pa_cons (pv 0) pa_nil)) (pe_gc T.c_LONGEST (by rfl))) (pe_one (pe_callB (k_all (K := Γ.K) rfl rfl) (by rfl) T.z_all (by decide +kernel) (pa_cons (pe_lc (own := [("sign", 1)]) (g := gName 1) rfl nd (pi_str (pv 0)) (blkOk_by (N := ["thing", "sign"]) (sc := defScope s_is_part) (own := [("sign", 1)]) (by decide +kernel)) (fun _ _ _ _ _ => (pg_name (i := 1) nd rfl (Or.inl rfl))) (fun _ _ _ _ _ => pts_nil) (fun _ _ _ _ _ => by exact (pe_cmpR (k_in (K := Γ.K) rfl) (pv 1) (pe_gc T.c_SMALL (by rfl)) (by rfl)))) pa_nil))))))), (sv_ret (ev_andV (ev_cb (rc_isi T.tab) (av_cons (ev_v 0) (av_cons ev_ty av_nil))) (ev_andV (ev_chain ro_le ro_le ev_int (ev_cb rc_len (av_cons (ev_v 0) av_nil)) ev_int) (ev_cb rc_all (av_cons (ev_lc (iv_str (ev_v 0)) gv_name (gl_name (by decide)) tv_yes (ev_op ro_in (ev_v 1) ev_str)) av_nil)))))⟩
theorem ok_is_name {f : Addr} {fd : FuncData} (F : FunD Γ.K "is_name" "is_name" (defArgs s_is_name) (defBody s_is_name) (defScope s_is_name) [] [] f fd) (T : Glb Γ mg) (D_is_part : DefM P w Γ.K mg base "is_part" s_is_part 1 ["thing"] [] (FM Γ m_is_part)) : FnOk P w Γ.K mg base (L2.CX P w) 2 f fd ["thing"] (FM Γ m_is_name) := by
  refine okN F sc_is_name (fun cdv A outer s H E hr => ?_)
  have hu := hr.units
  have nd := sc_is_name.nd
  have tk : Takes (cxOf (L2.CX P w) P w Γ.K mg base ["thing", "parts", "part"] "is_name" (defScope s_is_name) f cdv A outer s H E) (fun cls d _ H => E cls d H) := takes_of rfl rfl rfl rfl
  exact ⟨_, (pss_cons (ps_if (pt_not (pt_val (pe_callB (k_isU (K := Γ.K) rfl) (by rfl) T.z_isinstance (by decide +kernel) (pa_cons (pv 0) (pa_cons (pe_bltn (v := .ty "str") (by rfl) T.z_str (by decide +kernel) rfl) pa_nil))))) (pss_one (ps_ret pe_bl)) pss_nil)
      (pss_cons (ps_set (i := 1) nd rfl (Or.inl rfl) (k_bm (K := Γ.K) rfl PySem.F.plainAttrs_str PySem.F.slot_str_split PySem.F.type_str_split umt_split (pv 0) (pa_cons pe_str pa_nil)))
      (pss_one (ps_ret (pe_and (pe_cmpR op_le (pe_callB (k_len (K := Γ.K) rfl) (by rfl) T.z_len (by decide +kernel) (pa_cons (pv 1) pa_nil)) (pe_gc T.c_MOST_PARTS (by rfl)) (nomark _)) (pe_one (pe_callB (k_all (K := Γ.K) rfl rfl) (by rfl) T.z_all (by decide +kernel) (pa_cons (pe_lc (own := [("part", 2)]) (g := gName 2) rfl nd (k_pi_list (K := Γ.K) rfl (pv 1)) (blkOk_by (N := ["thing", "parts", "part"]) (sc := defScope s_is_name) (own := [("part", 2)]) (by decide +kernel)) (fun _ _ _ _ _ => (pg_name (i := 2) nd rfl (Or.inl rfl))) (fun _ _ _ _ _ => pts_nil) (fun _ _ _ _ _ => by exact (pe_dMP D_is_part 1 [] [0] (fun _ h => nomatch h) (fun _ _ _ _ _ _ _ us mv ws hk h1 h2 h3 => match us, mv, ws, h1, h2, h3 with | [_], [], [], _, _, _ => rfl) (hr.mono (by decide)) takes0 (by rfl) (pa_cons (pv 2) pa_nil)))) pa_nil)))))))), (sv_seq (sv_if (tv_not (tv_B (ev_cb (rc_isi T.tab) (av_cons (ev_v 0) (av_cons ev_ty av_nil))))) (sv_ret ev_bl) sv_next)
      (sv_seq (sv_asg (ev_bm rm_split (ev_v 0) (av_cons ev_str av_nil)) gv_name)
      (sv_ret (ev_andV (ev_op ro_le (ev_cb rc_len (av_cons (ev_v 1) av_nil)) ev_int) (ev_cb rc_all (av_cons (ev_lc (iv_list (ev_v 1)) gv_name (gl_name (by decide)) tv_yes (ev_call (fun _ _ => RpL.nil) (av_cons (ev_v 2) av_nil) av_nil)) av_nil))))))⟩
theorem ok_look_at_name {f : Addr} {fd : FuncData} (F : FunD Γ.K "look_at_name" "look_at_name" (defArgs s_look_at_name) (defBody s_look_at_name) (defScope s_look_at_name) [] [] f fd) (T : Glb Γ mg) (D_is_name : DefM P w Γ.K mg base "is_name" s_is_name 2 ["thing"] [] (FM Γ m_is_name)) : FnOk P w Γ.K mg base (L2.CX P w) 3 f fd ["thing"] (FM Γ m_look_at_name) := by
  refine okN F sc_look_at_name (fun cdv A outer s H E hr => ?_)
  have hu := hr.units
  have nd := sc_look_at_name.nd
  have tk : Takes (cxOf (L2.CX P w) P w Γ.K mg base ["thing"] "look_at_name" (defScope s_look_at_name) f cdv A outer s H E) (fun cls d _ H => E cls d H) := takes_of rfl rfl rfl rfl
  exact ⟨_, (pss_one (ps_if (pt_not (pt_val (pe_dMP D_is_name 1 [] [0] (fun _ h => nomatch h) (fun _ _ _ _ _ _ _ us mv ws hk h1 h2 h3 => match us, mv, ws, h1, h2, h3 with | [_], [], [], _, _, _ => rfl) (hr.mono (by decide)) tk (by rfl) (pa_cons (pv 0) pa_nil)))) (pss_one ps_stuck) pss_nil)), (sv_if (tv_not (tv_B (ev_call (fun _ _ => RpL.nil) (av_cons (ev_v 0) av_nil) av_nil))) sv_stuck sv_next)⟩
theorem ok_look_at_check {f : Addr} {fd : FuncData} (F : FunD Γ.K "look_at_check" "look_at_check" (defArgs s_look_at_check) (defBody s_look_at_check) (defScope s_look_at_check) [] [] f fd) (T : Glb Γ mg)  : FnOk P w Γ.K mg base (L2.CX P w) 1 f fd ["thing"] (FM Γ m_look_at_check) := by
  refine okN F sc_look_at_check (fun cdv A outer s H E hr => ?_)
  have hu := hr.units
  have nd := sc_look_at_check.nd
  have tk : Takes (cxOf (L2.CX P w) P w Γ.K mg base ["thing"] "look_at_check" (defScope s_look_at_check) f cdv A outer s H E) (fun cls d _ H => E cls d H) := takes_of rfl rfl rfl rfl
  exact ⟨_, (pss_one (ps_if (pt_cmpR (op_notInT (K := Γ.K) rfl (hu65 hr)) (pv 0) (pe_glob (v := .ref (Γ.c 64)) (by rfl) T.g_CHECKS rfl) (by rfl)) (pss_one (ps_raise rfl tk (pmk_own PySem.F.excBase_ValueError T.x_NoLine T.g_NoLine T.k_NoLine (raises_own T.b_NoLine T.t_NoLine) rfl))) pss_nil)), (sv_if (tv_test (ev_op ro_inT (ev_v 0) (ev_ktp T.kt_CHECKS (fun _ => (RpL.cons (.str _) (RpL.cons (.str _) RpL.nil)))))) sv_raise0 sv_next)⟩
theorem ok_Forms___init__ {f : Addr} {fd : FuncData} (F : FunD Γ.K "__init__" "Forms.__init__" (defArgs s_Forms___init__) (defBody s_Forms___init__) (defScope s_Forms___init__) [] [("check", .str "stamp")] f fd) (T : Glb Γ mg) (D_look_at_check : DefM P w Γ.K mg base "look_at_check" s_look_at_check 1 ["thing"] [] (FM Γ m_look_at_check)) : FnOk P w Γ.K mg base (L2.CX P w) 2 f fd ["self", "check"] (FM Γ m_Forms___init__) := by
  refine okN F sc_Forms___init__ (fun cdv A outer s H E hr => ?_)
  have hu := hr.units
  have nd := sc_Forms___init__.nd
  have tk : Takes (cxOf (L2.CX P w) P w Γ.K mg base ["self", "check"] "Forms.__init__" (defScope s_Forms___init__) f cdv A outer s H E) (fun cls d _ H => E cls d H) := takes_of rfl rfl rfl rfl
  exact ⟨_, (pss_cons (ps_expr (pe_dMP D_look_at_check 1 [] [0] (fun _ h => nomatch h) (fun _ _ _ _ _ _ _ us mv ws hk h1 h2 h3 => match us, mv, ws, h1, h2, h3 with | [_], [], [], _, _, _ => rfl) (hr.mono (by decide)) tk (by rfl) (pa_cons (pv 1) pa_nil)))
      (pss_cons (k_fldS (K := Γ.K) rfl (pv 0) (pv 1))
      (pss_cons (k_fldS (K := Γ.K) rfl (pv 0) pe_dnewT)
      (pss_cons (k_fldS (K := Γ.K) rfl (pv 0) pe_int)
      (pss_one (k_fldS (K := Γ.K) rfl (pv 0) pe_int)))))), (sv_seq (sv_drop (ev_call (fun _ _ => RpL.nil) (av_cons (ev_v 1) av_nil) av_nil))
      (sv_seq (sv_fld T.ni (ev_v 1) (ev_v 0))
      (sv_seq (sv_fld T.ni ev_tnew (ev_v 0))
      (sv_seq (sv_fld T.ni ev_int (ev_v 0))
      (sv_fld T.ni ev_int (ev_v 0))))))⟩
theorem ok_Store___init__ {f : Addr} {fd : FuncData} (F : FunD Γ.K "__init__" "Store.__init__" (defArgs s_Store___init__) (defBody s_Store___init__) (defScope s_Store___init__) [] [] f fd) (T : Glb Γ mg) (D_is_part : DefM P w Γ.K mg base "is_part" s_is_part 1 ["thing"] [] (FM Γ m_is_part)) : FnOk P w Γ.K mg base (L2.CX P w) 2 f fd ["self", "name"] (FM Γ m_Store___init__) := by
  refine okN F sc_Store___init__ (fun cdv A outer s H E hr => ?_)
  have hu := hr.units
  have nd := sc_Store___init__.nd
  have tk : Takes (cxOf (L2.CX P w) P w Γ.K mg base ["self", "name"] "Store.__init__" (defScope s_Store___init__) f cdv A outer s H E) (fun cls d _ H => E cls d H) := takes_of rfl rfl rfl rfl
  exact ⟨_, (pss_cons (ps_if (pt_not (pt_val (pe_dMP D_is_part 1 [] [0] (fun _ h => nomatch h) (fun _ _ _ _ _ _ _ us mv ws hk h1 h2 h3 => match us, mv, ws, h1, h2, h3 with | [_], [], [], _, _, _ => rfl) (hr.mono (by decide)) tk (by rfl) (pa_cons (pv 1) pa_nil)))) (pss_one ps_stuck) pss_nil)
      (pss_cons (k_fldS (K := Γ.K) rfl (pv 0) (pv 1))
      (pss_cons (k_fldS (K := Γ.K) rfl (pv 0) pe_dnewK)
      (pss_one (k_fldS (K := Γ.K) rfl (pv 0) pe_int))))), (sv_seq (sv_if (tv_not (tv_B (ev_call (fun _ _ => RpL.nil) (av_cons (ev_v 1) av_nil) av_nil))) sv_stuck sv_next)
      (sv_seq (sv_fld T.ni (ev_v 1) (ev_v 0))
      (sv_seq (sv_fld T.ni ev_dnew (ev_v 0))
      (sv_fld T.ni ev_int (ev_v 0)))))⟩
theorem ok_Lists___init__ {f : Addr} {fd : FuncData} (F : FunD Γ.K "__init__" "Lists.__init__" (defArgs s_Lists___init__) (defBody s_Lists___init__) (defScope s_Lists___init__) [] [] f fd) (T : Glb Γ mg)  : FnOk P w Γ.K mg base (L2.CX P w) 1 f fd ["self"] (FM Γ m_Lists___init__) := by
  refine okN F sc_Lists___init__ (fun cdv A outer s H E hr => ?_)
  have hu := hr.units
  have nd := sc_Lists___init__.nd
  have tk : Takes (cxOf (L2.CX P w) P w Γ.K mg base ["self"] "Lists.__init__" (defScope s_Lists___init__) f cdv A outer s H E) (fun cls d _ H => E cls d H) := takes_of rfl rfl rfl rfl
  exact ⟨_, (pss_one (k_fldS (K := Γ.K) rfl (pv 0) pe_dnewK)), (sv_fld T.ni ev_dnew (ev_v 0))⟩
theorem ok_NoBody___init__ {f : Addr} {fd : FuncData} (F : FunD Γ.K "__init__" "NoBody.__init__" (defArgs s_NoBody___init__) (defBody s_NoBody___init__) (defScope s_NoBody___init__) [] [("trail", .ref (Γ.c 37))] f fd) (T : Glb Γ mg) (X : OxB Γ.K (Γ.c 5) bsV) (no : ∀ p ∈ ([("row", 1), ("trail", 2)] : List (Str × Nat)), PySem.W.findIn Γ.K (.ref (Γ.c 5)) p.1 = some none) : FnOk P w Γ.K mg base (L2.CX P w) 4 f fd ["self", "row", "trail"] (spX Γ.K (Γ.c 5) ["trail", "row"]) := by
  refine okX (l := [("row", 1), ("trail", 2)]) (ta := tCons (tVar 0) (tCons (tC (.str "no body")) tNil)) (w0 := .str "no body") F sc_NoBody___init__ X rfl (by decide) (by decide) no (fun a vs H Q q => ⟨_, rfl, q⟩) (fun a xs hx => match xs, hx with | [_, _], _ => rfl) (fun cdv A outer s H E hr => ?_)
  exact (pss_cons (ps_expr (pe_xinit basV rfl T.z_ValueError (pa_cons (pv 0) (pa_cons pe_str pa_nil)))) (pss_cons (ps_oxs (pv 0) (pv 1)) (pss_cons (ps_oxs (pv 0) (pv 2)) pss_nil)))
theorem ok_Store_put {f : Addr} {fd : FuncData} (F : FunD Γ.K "put" "Store.put" (defArgs s_Store_put) (defBody s_Store_put) (defScope s_Store_put) [] [("pack", .bl false), ("at", .int 0)] f fd) (T : Glb Γ mg) (D_look_at_name : DefM P w Γ.K mg base "look_at_name" s_look_at_name 3 ["thing"] [] (FM Γ m_look_at_name)) (D_NoBody___init__ : DefX P w Γ.K mg base (Γ.c 5) "NoBody.__init__" s_NoBody___init__ 4 ["self", "row", "trail"] [("trail", .ref (Γ.c 37))] ["trail", "row"] bsV) : FnOk P w Γ.K mg base (L2.CX P w) 6 f fd ["self", "name", "text", "pack", "at"] (FM Γ m_Store_put) := by
  refine okN F sc_Store_put (fun cdv A outer s H E hr => ?_)
  have hu := hr.units
  have nd := sc_Store_put.nd
  have tk : Takes (cxOf (L2.CX P w) P w Γ.K mg base ["self", "name", "text", "pack", "at"] "Store.put" (defScope s_Store_put) f cdv A outer s H E) (fun cls d _ H => E cls d H) := takes_of rfl rfl rfl rfl
  exact ⟨_, (pss_cons (ps_expr (pe_dMP D_look_at_name 1 [] [0] (fun _ h => nomatch h) (fun _ _ _ _ _ _ _ us mv ws hk h1 h2 h3 => match us, mv, ws, h1, h2, h3 with | [_], [], [], _, _, _ => rfl) (hr.mono (by decide)) tk (by rfl) (pa_cons (pv 1) pa_nil)))
      (pss_cons (ps_if (pt_not (pt_val (pe_callB (k_isU (K := Γ.K) rfl) (by rfl) T.z_isinstance (by decide +kernel) (pa_cons (pv 2) (pa_cons (pe_bltn (v := .ty "str") (by rfl) T.z_str (by decide +kernel) rfl) pa_nil))))) (pss_one (ps_raise rfl tk (pmk_dX D_NoBody___init__ 2 (List.cons_ne_nil _ _) rfl (fun _ _ _ _ _ _ us ks h1 h2 => match us, ks, h1, h2 with | [_, _], [_], _, _ => ⟨_, _, _, _, _, _, rfl, rfl, rfl⟩) (hr.mono (by decide)) tk (by rfl) T.g_NoBody (pa_cons pe_non pa_nil)))) pss_nil)
      (pss_cons (ps_dput (hu_of hr) (k_fldU (K := Γ.K) rfl (pv 0)) (pv 1) (pe_tup (pa_cons (pv 2) (pa_cons (pv 3) (pa_cons (pv 4) pa_nil)))) (by rfl))
      (pss_one (k_fldS (K := Γ.K) rfl (pv 0) (pv 4)))))), (sv_seq (sv_drop (ev_call (fun _ _ => RpL.nil) (av_cons (ev_v 1) av_nil) av_nil))
      (sv_seq (sv_if (tv_not (tv_B (ev_cb (rc_isi T.tab) (av_cons (ev_v 2) (av_cons ev_ty av_nil))))) (sv_raiseX (fun _ hg => (.cons (Rp.ktp (hg ▸ T.q_NoBody) .nil) RpL.nil)) (av_cons ev_non av_nil)) sv_next)
      (sv_seq (sv_dput (ev_tup (av_cons (ev_v 2) (av_cons (ev_v 3) (av_cons (ev_v 4) av_nil)))) (ev_fldU T.nx T.ni (ev_v 0)) (ev_v 1))
      (sv_fld T.ni (ev_v 4) (ev_v 0)))))⟩
theorem ok_Store_entry {f : Addr} {fd : FuncData} (F : FunD Γ.K "entry" "Store.entry" (defArgs s_Store_entry) (defBody s_Store_entry) (defScope s_Store_entry) [] [] f fd) (T : Glb Γ mg) (D_look_at_name : DefM P w Γ.K mg base "look_at_name" s_look_at_name 3 ["thing"] [] (FM Γ m_look_at_name)) : FnOk P w Γ.K mg base (L2.CX P w) 4 f fd ["self", "name"] (FM Γ m_Store_entry) := by
  refine okN F sc_Store_entry (fun cdv A outer s H E hr => ?_)
  have hu := hr.units
  have nd := sc_Store_entry.nd
  have tk : Takes (cxOf (L2.CX P w) P w Γ.K mg base ["self", "name"] "Store.entry" (defScope s_Store_entry) f cdv A outer s H E) (fun cls d _ H => E cls d H) := takes_of rfl rfl rfl rfl
  exact ⟨_, (pss_cons (ps_expr (pe_dMP D_look_at_name 1 [] [0] (fun _ h => nomatch h) (fun _ _ _ _ _ _ _ us mv ws hk h1 h2 h3 => match us, mv, ws, h1, h2, h3 with | [_], [], [], _, _, _ => rfl) (hr.mono (by decide)) tk (by rfl) (pa_cons (pv 1) pa_nil)))
      (pss_one (ps_ret (pe_dget2 (hu_of hr) (k_fldU (K := Γ.K) rfl (pv 0)) (pv 1) pe_non ⟨by rfl, by rfl, by rfl, by rfl⟩)))), (sv_seq (sv_drop (ev_call (fun _ _ => RpL.nil) (av_cons (ev_v 1) av_nil) av_nil))
      (sv_ret (ev_dget2 (ev_fldU T.nx T.ni (ev_v 0)) (ev_v 1) ev_non)))⟩
theorem ok_NotFound___init__ {f : Addr} {fd : FuncData} (F : FunD Γ.K "__init__" "NotFound.__init__" (defArgs s_NotFound___init__) (defBody s_NotFound___init__) (defScope s_NotFound___init__) [] [("trail", .ref (Γ.c 38))] f fd) (T : Glb Γ mg) (X : OxB Γ.K (Γ.c 6) bsL) (no : ∀ p ∈ ([("name", 1), ("trail", 2)] : List (Str × Nat)), PySem.W.findIn Γ.K (.ref (Γ.c 6)) p.1 = some none) : FnOk P w Γ.K mg base (L2.CX P w) 4 f fd ["self", "name", "trail"] (spX Γ.K (Γ.c 6) ["trail", "name"]) := by
  refine okX (l := [("name", 1), ("trail", 2)]) (ta := tCons (tVar 0) (tCons (tC (.str "no such module")) tNil)) (w0 := .str "no such module") F sc_NotFound___init__ X rfl (by decide) (by decide) no (fun a vs H Q q => ⟨_, rfl, q⟩) (fun a xs hx => match xs, hx with | [_, _], _ => rfl) (fun cdv A outer s H E hr => ?_)
  exact (pss_cons (ps_expr (pe_xinit basL rfl T.z_LookupError (pa_cons (pv 0) (pa_cons pe_str pa_nil)))) (pss_cons (ps_oxs (pv 0) (pv 1)) (pss_cons (ps_oxs (pv 0) (pv 2)) pss_nil)))
theorem ok_Forms_holds {f : Addr} {fd : FuncData} (F : FunD Γ.K "holds" "Forms.holds" (defArgs s_Forms_holds) (defBody s_Forms_holds) (defScope s_Forms_holds) [] [] f fd) (T : Glb Γ mg) (D_Store_entry : DefN P w Γ.K mg base (Γ.c 14) "entry" "Store.entry" s_Store_entry 4 ["self", "name"] [] (FM Γ m_Store_entry)) : FnOk P w Γ.K mg base (L2.CX P w) 5 f fd ["self", "store", "name"] (FM Γ m_Forms_holds) := by
  refine okN F sc_Forms_holds (fun cdv A outer s H E hr => ?_)
  have hu := hr.units
  have nd := sc_Forms_holds.nd
  have tk : Takes (cxOf (L2.CX P w) P w Γ.K mg base ["self", "store", "name", "known", "lies"] "Forms.holds" (defScope s_Forms_holds) f cdv A outer s H E) (fun cls d _ H => E cls d H) := takes_of rfl rfl rfl rfl
  exact ⟨_, (pss_cons (ps_set (i := 3) nd rfl (Or.inl rfl) (pe_dget2 (hu_of hr) (k_fldU (K := Γ.K) rfl (pv 0)) (pe_tup (pa_cons (k_fldU (K := Γ.K) rfl (pv 1)) (pa_cons (pv 2) pa_nil))) pe_non ⟨by rfl, by rfl, by rfl, by rfl⟩))
      (pss_cons (ps_set (i := 4) nd rfl (Or.inl rfl) (pe_mtMP (K := Γ.K) rfl (pv 1) (tbl1_of (methB_of D_Store_entry 1 [] [] [0, 1] (fun _ h => nomatch h) (fun _ _ _ _ _ _ _ us mv ws hk h1 h2 h3 => match us, mv, ws, h1, h2, h3 with | [_, _], [], [], _, _, _ => rfl))) (hr.mono (by decide)) (fun σ => passAt tk σ) (pa_cons (pv 2) pa_nil)))
      (pss_cons (ps_if (PW.pt (pw_or (pt_cmpR op_isN (pv 3) pe_non (nomark _)) (pw_or1 (pt_cmpR op_isN (pv 4) pe_non (nomark _))))) (pss_one (ps_ret pe_bl)) pss_nil)
      (pss_cons (ps_if (pt_cmpR (k_eq (K := Γ.K) rfl hu) (k_fldU (K := Γ.K) rfl (pv 0)) pe_str (nomark _)) (pss_one (ps_ret (pe_cmpR (k_eq (K := Γ.K) rfl hu) (pe_ix (k_ix (K := Γ.K) rfl) (pv 3) pe_int (fun _ _ => rfl)) (pe_ix (k_ix (K := Γ.K) rfl) (pv 4) pe_int (fun _ _ => rfl)) (nomark _)))) pss_nil)
      (pss_one (ps_ret (pe_and (pe_cmpR (k_eq (K := Γ.K) rfl hu) (pe_ix (k_ix (K := Γ.K) rfl) (pv 3) pe_int (fun _ _ => rfl)) (pe_ix (k_ix (K := Γ.K) rfl) (pv 4) pe_int (fun _ _ => rfl)) (nomark _)) (pe_one (pe_cmpR (k_eq (K := Γ.K) rfl hu) (pe_callB (k_len (K := Γ.K) rfl) (by rfl) T.z_len (by decide +kernel) (pa_cons (pe_ix (k_ix (K := Γ.K) rfl) (pv 3) pe_int (fun _ _ => rfl)) pa_nil)) (pe_callB (k_len (K := Γ.K) rfl) (by rfl) T.z_len (by decide +kernel) (pa_cons (pe_ix (k_ix (K := Γ.K) rfl) (pv 4) pe_int (fun _ _ => rfl)) pa_nil)) (nomark _)))))))))), (sv_seq (sv_asg (ev_tget2 (ev_fldU T.nx T.ni (ev_v 0)) (ev_tup (av_cons (ev_fldU T.nx T.ni (ev_v 1)) (av_cons (ev_v 2) av_nil))) ev_non) gv_name)
      (sv_seq (sv_asg (ev_meth (fun _ _ => RpL.nil) (ev_v 1) (av_cons (ev_v 2) av_nil) av_nil) gv_name)
      (sv_seq (sv_if (tv_or (tv_test (ev_op ro_isN (ev_v 3) ev_non)) (tv_test (ev_op ro_isN (ev_v 4) ev_non))) (sv_ret ev_bl) sv_next)
      (sv_seq (sv_if (tv_test (ev_op ro_eq (ev_fldU T.nx T.ni (ev_v 0)) ev_str)) (sv_ret (ev_op ro_eq (ev_op ro_ix (ev_v 3) ev_int) (ev_op ro_ix (ev_v 4) ev_int))) sv_next)
      (sv_ret (ev_andV (ev_op ro_eq (ev_op ro_ix (ev_v 3) ev_int) (ev_op ro_ix (ev_v 4) ev_int)) (ev_op ro_eq (ev_cb rc_len (av_cons (ev_op ro_ix (ev_v 3) ev_int) av_nil)) (ev_cb rc_len (av_cons (ev_op ro_ix (ev_v 4) ev_int) av_nil)))))))))⟩
theorem ok_is_bound {f : Addr} {fd : FuncData} (F : FunD Γ.K "is_bound" "is_bound" (defArgs s_is_bound) (defBody s_is_bound) (defScope s_is_bound) [] [] f fd) (T : Glb Γ mg) (D_is_name : DefM P w Γ.K mg base "is_name" s_is_name 2 ["thing"] [] (FM Γ m_is_name)) (D_is_part : DefM P w Γ.K mg base "is_part" s_is_part 1 ["thing"] [] (FM Γ m_is_part)) : FnOk P w Γ.K mg base (L2.CX P w) 3 f fd ["words"] (FM Γ m_is_bound) := by
  refine okN F sc_is_bound (fun cdv A outer s H E hr => ?_)
  have hu := hr.units
  have nd := sc_is_bound.nd
  have tk : Takes (cxOf (L2.CX P w) P w Γ.K mg base ["words"] "is_bound" (defScope s_is_bound) f cdv A outer s H E) (fun cls d _ H => E cls d H) := takes_of rfl rfl rfl rfl
  exact ⟨_, (pss_one (ps_ret (pe_and (pe_cmpR (k_eq (K := Γ.K) rfl hu) (pe_callB (k_len (K := Γ.K) rfl) (by rfl) T.z_len (by decide +kernel) (pa_cons (pv 0) pa_nil)) pe_int (nomark _)) (pe_and (pe_dMP D_is_name 1 [] [0] (fun _ h => nomatch h) (fun _ _ _ _ _ _ _ us mv ws hk h1 h2 h3 => match us, mv, ws, h1, h2, h3 with | [_], [], [], _, _, _ => rfl) (hr.mono (by decide)) tk (by rfl) (pa_cons (pe_ix (k_ix (K := Γ.K) rfl) (pv 0) pe_int (fun _ _ => rfl)) pa_nil)) (pe_and (pe_cmpR (k_eq (K := Γ.K) rfl hu) (pe_ix (k_ix (K := Γ.K) rfl) (pv 0) pe_int (fun _ _ => rfl)) pe_str (nomark _)) (pe_one (pe_dMP D_is_part 1 [] [0] (fun _ h => nomatch h) (fun _ _ _ _ _ _ _ us mv ws hk h1 h2 h3 => match us, mv, ws, h1, h2, h3 with | [_], [], [], _, _, _ => rfl) (hr.mono (by decide)) tk (by rfl) (pa_cons (pe_ix (k_ix (K := Γ.K) rfl) (pv 0) pe_int (fun _ _ => rfl)) pa_nil)))))))), (sv_ret (ev_andV (ev_op ro_eq (ev_cb rc_len (av_cons (ev_v 0) av_nil)) ev_int) (ev_andV (ev_call (fun _ _ => RpL.nil) (av_cons (ev_op ro_ix (ev_v 0) ev_int) av_nil) av_nil) (ev_andV (ev_op ro_eq (ev_op ro_ix (ev_v 0) ev_int) ev_str) (ev_call (fun _ _ => RpL.nil) (av_cons (ev_op ro_ix (ev_v 0) ev_int) av_nil) av_nil)))))⟩
theorem ok_is_near {f : Addr} {fd : FuncData} (F : FunD Γ.K "is_near" "is_near" (defArgs s_is_near) (defBody s_is_near) (defScope s_is_near) [] [] f fd) (T : Glb Γ mg) (D_is_name : DefM P w Γ.K mg base "is_name" s_is_name 2 ["thing"] [] (FM Γ m_is_name)) : FnOk P w Γ.K mg base (L2.CX P w) 3 f fd ["thing"] (FM Γ m_is_near) := by
  refine okN F sc_is_near (fun cdv A outer s H E hr => ?_)
  have hu := hr.units
  have nd := sc_is_near.nd
  have tk : Takes (cxOf (L2.CX P w) P w Γ.K mg base ["thing", "behind", "dots"] "is_near" (defScope s_is_near) f cdv A outer s H E) (fun cls d _ H => E cls d H) := takes_of rfl rfl rfl rfl
  exact ⟨_, (pss_cons (ps_if (pt_not (pt_val (pe_callB (k_isU (K := Γ.K) rfl) (by rfl) T.z_isinstance (by decide +kernel) (pa_cons (pv 0) (pa_cons (pe_bltn (v := .ty "str") (by rfl) T.z_str (by decide +kernel) rfl) pa_nil))))) (pss_one (ps_ret pe_bl)) pss_nil)
      (pss_cons (ps_set (i := 1) nd rfl (Or.inl rfl) (k_bm (K := Γ.K) rfl PySem.F.plainAttrs_str PySem.F.slot_str_lstrip PySem.F.type_str_lstrip umt_lstrip (pv 0) (pa_cons pe_str pa_nil)))
      (pss_cons (ps_set (i := 2) nd rfl (Or.inl rfl) (pe_op op_sub (pe_callB (k_len (K := Γ.K) rfl) (by rfl) T.z_len (by decide +kernel) (pa_cons (pv 0) pa_nil)) (pe_callB (k_len (K := Γ.K) rfl) (by rfl) T.z_len (by decide +kernel) (pa_cons (pv 1) pa_nil))))
      (pss_one (ps_ret (pe_and (pe_cmpR op_le (pv 2) (pe_gc T.c_MOST_PARTS (by rfl)) (nomark _)) (pe_one (pe_or (pe_dMP D_is_name 1 [] [0] (fun _ h => nomatch h) (fun _ _ _ _ _ _ _ us mv ws hk h1 h2 h3 => match us, mv, ws, h1, h2, h3 with | [_], [], [], _, _, _ => rfl) (hr.mono (by decide)) tk (by rfl) (pa_cons (pv 1) pa_nil)) (pe_one (pe_and (pe_cmpR (k_eq (K := Γ.K) rfl hu) (pv 1) pe_str (nomark _)) (pe_one (pe_cmpR op_gt (pv 2) pe_int (nomark _))))))))))))), (sv_seq (sv_if (tv_not (tv_B (ev_cb (rc_isi T.tab) (av_cons (ev_v 0) (av_cons ev_ty av_nil))))) (sv_ret ev_bl) sv_next)
      (sv_seq (sv_asg (ev_bm rm_lstrip (ev_v 0) (av_cons ev_str av_nil)) gv_name)
      (sv_seq (sv_asg (ev_op ro_sub (ev_cb rc_len (av_cons (ev_v 0) av_nil)) (ev_cb rc_len (av_cons (ev_v 1) av_nil))) gv_name)
      (sv_ret (ev_andV (ev_op ro_le (ev_v 2) ev_int) (ev_orV (ev_call (fun _ _ => RpL.nil) (av_cons (ev_v 1) av_nil) av_nil) (ev_andV (ev_op ro_eq (ev_v 1) ev_str) (ev_op ro_gt (ev_v 2) ev_int))))))))⟩
theorem ok_is_taken {f : Addr} {fd : FuncData} (F : FunD Γ.K "is_taken" "is_taken" (defArgs s_is_taken) (defBody s_is_taken) (defScope s_is_taken) [] [] f fd) (T : Glb Γ mg) (D_is_part : DefM P w Γ.K mg base "is_part" s_is_part 1 ["thing"] [] (FM Γ m_is_part)) (D_is_near : DefM P w Γ.K mg base "is_near" s_is_near 3 ["thing"] [] (FM Γ m_is_near)) : FnOk P w Γ.K mg base (L2.CX P w) 4 f fd ["words"] (FM Γ m_is_taken) := by
  refine okN F sc_is_taken (fun cdv A outer s H E hr => ?_)
  have hu := hr.units
  have nd := sc_is_taken.nd
  have tk : Takes (cxOf (L2.CX P w) P w Γ.K mg base ["words"] "is_taken" (defScope s_is_taken) f cdv A outer s H E) (fun cls d _ H => E cls d H) := takes_of rfl rfl rfl rfl
  exact ⟨_, (pss_cons (ps_if (PW.pt (pw_or (pt_cmpR (k_notIn (K := Γ.K) rfl) (pe_callB (k_len (K := Γ.K) rfl) (by rfl) T.z_len (by decide +kernel) (pa_cons (pv 0) pa_nil)) (pe_tup (pa_cons pe_int (pa_cons pe_int pa_nil))) (by rfl)) (pw_or (pt_not (pt_val (pe_dMP D_is_near 1 [] [0] (fun _ h => nomatch h) (fun _ _ _ _ _ _ _ us mv ws hk h1 h2 h3 => match us, mv, ws, h1, h2, h3 with | [_], [], [], _, _, _ => rfl) (hr.mono (by decide)) tk (by rfl) (pa_cons (pe_ix (k_ix (K := Γ.K) rfl) (pv 0) pe_int (fun _ _ => rfl)) pa_nil)))) (pw_or (pt_cmpR (k_ne (K := Γ.K) rfl hu) (pe_ix (k_ix (K := Γ.K) rfl) (pv 0) pe_int (fun _ _ => rfl)) pe_str (nomark _)) (pw_or1 (pt_not (pt_val (pe_dMP D_is_part 1 [] [0] (fun _ h => nomatch h) (fun _ _ _ _ _ _ _ us mv ws hk h1 h2 h3 => match us, mv, ws, h1, h2, h3 with | [_], [], [], _, _, _ => rfl) (hr.mono (by decide)) tk (by rfl) (pa_cons (pe_ix (k_ix (K := Γ.K) rfl) (pv 0) pe_int (fun _ _ => rfl)) pa_nil))))))))) (pss_one (ps_ret pe_bl)) pss_nil)
      (pss_cons (ps_if (pt_cmpR (k_eq (K := Γ.K) rfl hu) (pe_callB (k_len (K := Γ.K) rfl) (by rfl) T.z_len (by decide +kernel) (pa_cons (pv 0) pa_nil)) pe_int (nomark _)) (pss_one (ps_ret pe_bl)) pss_nil)
      (pss_one (ps_ret (pe_and (pe_cmpR (k_ne (K := Γ.K) rfl hu) (pe_ix (k_ix (K := Γ.K) rfl) (pv 0) pe_int (fun _ _ => rfl)) pe_str (nomark _)) (pe_and (pe_cmpR (k_eq (K := Γ.K) rfl hu) (pe_ix (k_ix (K := Γ.K) rfl) (pv 0) pe_int (fun _ _ => rfl)) pe_str (nomark _)) (pe_one (pe_dMP D_is_part 1 [] [0] (fun _ h => nomatch h) (fun _ _ _ _ _ _ _ us mv ws hk h1 h2 h3 => match us, mv, ws, h1, h2, h3 with | [_], [], [], _, _, _ => rfl) (hr.mono (by decide)) tk (by rfl) (pa_cons (pe_ix (k_ix (K := Γ.K) rfl) (pv 0) pe_int (fun _ _ => rfl)) pa_nil))))))))), (sv_seq (sv_if (tv_or (tv_test (ev_op ro_in (ev_cb rc_len (av_cons (ev_v 0) av_nil)) (ev_tup (av_cons ev_int (av_cons ev_int av_nil))))) (tv_or (tv_not (tv_B (ev_call (fun _ _ => RpL.nil) (av_cons (ev_op ro_ix (ev_v 0) ev_int) av_nil) av_nil))) (tv_or (tv_test (ev_op ro_ne (ev_op ro_ix (ev_v 0) ev_int) ev_str)) (tv_not (tv_B (ev_call (fun _ _ => RpL.nil) (av_cons (ev_op ro_ix (ev_v 0) ev_int) av_nil) av_nil)))))) (sv_ret ev_bl) sv_next)
      (sv_seq (sv_if (tv_test (ev_op ro_eq (ev_cb rc_len (av_cons (ev_v 0) av_nil)) ev_int)) (sv_ret ev_bl) sv_next)
      (sv_ret (ev_andV (ev_op ro_ne (ev_op ro_ix (ev_v 0) ev_int) ev_str) (ev_andV (ev_op ro_eq (ev_op ro_ix (ev_v 0) ev_int) ev_str) (ev_call (fun _ _ => RpL.nil) (av_cons (ev_op ro_ix (ev_v 0) ev_int) av_nil) av_nil))))))⟩
theorem ok_is_number {f : Addr} {fd : FuncData} (F : FunD Γ.K "is_number" "is_number" (defArgs s_is_number) (defBody s_is_number) (defScope s_is_number) [] [] f fd) (T : Glb Γ mg)  : FnOk P w Γ.K mg base (L2.CX P w) 1 f fd ["word"] (FM Γ m_is_number) := by
  refine okN F sc_is_number (fun cdv A outer s H E hr => ?_)
  have hu := hr.units
  have nd := sc_is_number.nd
  have tk : Takes (cxOf (L2.CX P w) P w Γ.K mg base ["word", "figures", "sign"] "is_number" (defScope s_is_number) f cdv A outer s H E) (fun cls d _ H => E cls d H) := takes_of rfl rfl rfl rfl
  exact ⟨_, (pss_cons (ps_set (i := 1) nd rfl (Or.inl rfl) (pv 0))
      (pss_cons (ps_if (pt_cmpR (k_eq (K := Γ.K) rfl hu) (pe_slice (k_sl (K := Γ.K) rfl) (pv 0) po_none (po_some pe_int)) pe_str (nomark _)) (pss_one (ps_set (i := 1) nd rfl (Or.inl rfl) (pe_slice (k_sl (K := Γ.K) rfl) (pv 0) (po_some pe_int) po_none))) pss_nil)
      (pss_cons (ps_if (PW.pt (pw_or (pt_not (pt_chain op_le op_le pe_int (pe_callB (k_len (K := Γ.K) rfl) (by rfl) T.z_len (by decide +kernel) (pa_cons (pv 1) pa_nil)) (pe_gc T.c_MOST_FIGURES (by rfl)))) (pw_or1 (pt_not (pt_val (pe_callB (k_all (K := Γ.K) rfl rfl) (by rfl) T.z_all (by decide +kernel) (pa_cons (pe_lc (own := [("sign", 2)]) (g := gName 2) rfl nd (pi_str (pv 1)) (blkOk_by (N := ["word", "figures", "sign"]) (sc := defScope s_is_number) (own := [("sign", 2)]) (by decide +kernel)) (fun _ _ _ _ _ => (pg_name (i := 2) nd rfl (Or.inl rfl))) (fun _ _ _ _ _ => pts_nil) (fun _ _ _ _ _ => by exact (pe_cmpR (k_in (K := Γ.K) rfl) (pv 2) (pe_gc T.c_FIGURES (by rfl)) (by rfl)))) pa_nil))))))) (pss_one (ps_ret pe_bl)) pss_nil)
      (pss_one (ps_ret (pe_or (pe_cmpR (k_ne (K := Γ.K) rfl hu) (pe_ix (k_ix (K := Γ.K) rfl) (pv 1) pe_int (fun _ _ => rfl)) pe_str (nomark _)) (pe_one (pe_cmpR (k_eq (K := Γ.K) rfl hu) (pv 0) pe_str (nomark _))))))))), (sv_seq (sv_asg (ev_v 0) gv_name)
      (sv_seq (sv_if (tv_test (ev_op ro_eq (ev_sl rs_sl (ev_v 0) ov_none (ov_some ev_int)) ev_str)) (sv_asg (ev_sl rs_sl (ev_v 0) (ov_some ev_int) ov_none) gv_name) sv_next)
      (sv_seq (sv_if (tv_or (tv_not (tv_test (ev_chain ro_le ro_le ev_int (ev_cb rc_len (av_cons (ev_v 1) av_nil)) ev_int))) (tv_not (tv_B (ev_cb rc_all (av_cons (ev_lc (iv_str (ev_v 1)) gv_name (gl_name (by decide)) tv_yes (ev_op ro_in (ev_v 2) ev_str)) av_nil))))) (sv_ret ev_bl) sv_next)
      (sv_ret (ev_orV (ev_op ro_ne (ev_op ro_ix (ev_v 1) ev_int) ev_str) (ev_op ro_eq (ev_v 0) ev_str))))))⟩
theorem ok_is_sum {f : Addr} {fd : FuncData} (F : FunD Γ.K "is_sum" "is_sum" (defArgs s_is_sum) (defBody s_is_sum) (defScope s_is_sum) [] [] f fd) (T : Glb Γ mg) (D_is_number : DefM P w Γ.K mg base "is_number" s_is_number 1 ["word"] [] (FM Γ m_is_number)) (D_is_name : DefM P w Γ.K mg base "is_name" s_is_name 2 ["thing"] [] (FM Γ m_is_name)) : FnOk P w Γ.K mg base (L2.CX P w) 3 f fd ["word"] (FM Γ m_is_sum) := by
  refine okN F sc_is_sum (fun cdv A outer s H E hr => ?_)
  have hu := hr.units
  have nd := sc_is_sum.nd
  have tk : Takes (cxOf (L2.CX P w) P w Γ.K mg base ["word", "terms", "term"] "is_sum" (defScope s_is_sum) f cdv A outer s H E) (fun cls d _ H => E cls d H) := takes_of rfl rfl rfl rfl
  exact ⟨_, (pss_cons (ps_set (i := 1) nd rfl (Or.inl rfl) (k_bm (K := Γ.K) rfl PySem.F.plainAttrs_str PySem.F.slot_str_split PySem.F.type_str_split umt_split (pv 0) (pa_cons pe_str pa_nil)))
      (pss_one (ps_ret (pe_and (pe_cmpR op_le (pe_callB (k_len (K := Γ.K) rfl) (by rfl) T.z_len (by decide +kernel) (pa_cons (pv 1) pa_nil)) (pe_gc T.c_MOST_TERMS (by rfl)) (nomark _)) (pe_one (pe_callB (k_all (K := Γ.K) rfl rfl) (by rfl) T.z_all (by decide +kernel) (pa_cons (pe_lc (own := [("term", 2)]) (g := gName 2) rfl nd (k_pi_list (K := Γ.K) rfl (pv 1)) (blkOk_by (N := ["word", "terms", "term"]) (sc := defScope s_is_sum) (own := [("term", 2)]) (by decide +kernel)) (fun _ _ _ _ _ => (pg_name (i := 2) nd rfl (Or.inl rfl))) (fun _ _ _ _ _ => pts_nil) (fun _ _ _ _ _ => by exact (pe_or (pe_dMP D_is_number 1 [] [0] (fun _ h => nomatch h) (fun _ _ _ _ _ _ _ us mv ws hk h1 h2 h3 => match us, mv, ws, h1, h2, h3 with | [_], [], [], _, _, _ => rfl) (hr.mono (by decide)) takes0 (by rfl) (pa_cons (pv 2) pa_nil)) (pe_one (pe_dMP D_is_name 1 [] [0] (fun _ h => nomatch h) (fun _ _ _ _ _ _ _ us mv ws hk h1 h2 h3 => match us, mv, ws, h1, h2, h3 with | [_], [], [], _, _, _ => rfl) (hr.mono (by decide)) takes0 (by rfl) (pa_cons (pv 2) pa_nil)))))) pa_nil))))))), (sv_seq (sv_asg (ev_bm rm_split (ev_v 0) (av_cons ev_str av_nil)) gv_name)
      (sv_ret (ev_andV (ev_op ro_le (ev_cb rc_len (av_cons (ev_v 1) av_nil)) ev_int) (ev_cb rc_all (av_cons (ev_lc (iv_list (ev_v 1)) gv_name (gl_name (by decide)) tv_yes (ev_orV (ev_call (fun _ _ => RpL.nil) (av_cons (ev_v 2) av_nil) av_nil) (ev_call (fun _ _ => RpL.nil) (av_cons (ev_v 2) av_nil) av_nil))) av_nil)))))⟩
theorem ok_are_unlike {f : Addr} {fd : FuncData} (F : FunD Γ.K "are_unlike" "are_unlike" (defArgs s_are_unlike) (defBody s_are_unlike) (defScope s_are_unlike) [] [] f fd) (T : Glb Γ mg)  : FnOk P w Γ.K mg base (L2.CX P w) 1 f fd ["words"] (FM Γ m_are_unlike) := by
  refine okN F sc_are_unlike (fun cdv A outer s H E hr => ?_)
  have hu := hr.units
  have nd := sc_are_unlike.nd
  have tk : Takes (cxOf (L2.CX P w) P w Γ.K mg base ["words", "word"] "are_unlike" (defScope s_are_unlike) f cdv A outer s H E) (fun cls d _ H => E cls d H) := takes_of rfl rfl rfl rfl
  exact ⟨_, (pss_one ps_stuck), sv_stuck⟩
theorem ok_is_row {f : Addr} {fd : FuncData} (F : FunD Γ.K "is_row" "is_row" (defArgs s_is_row) (defBody s_is_row) (defScope s_is_row) [] [] f fd) (T : Glb Γ mg) (D_is_bound : DefM P w Γ.K mg base "is_bound" s_is_bound 3 ["words"] [] (FM Γ m_is_bound)) (D_is_taken : DefM P w Γ.K mg base "is_taken" s_is_taken 4 ["words"] [] (FM Γ m_is_taken)) (D_is_part : DefM P w Γ.K mg base "is_part" s_is_part 1 ["thing"] [] (FM Γ m_is_part)) (D_is_sum : DefM P w Γ.K mg base "is_sum" s_is_sum 3 ["word"] [] (FM Γ m_is_sum)) (D_are_unlike : DefM P w Γ.K mg base "are_unlike" s_are_unlike 1 ["words"] [] (FM Γ m_are_unlike)) (D_is_name : DefM P w Γ.K mg base "is_name" s_is_name 2 ["thing"] [] (FM Γ m_is_name)) : FnOk P w Γ.K mg base (L2.CX P w) 5 f fd ["words"] (FM Γ m_is_row) := by
  refine okN F sc_is_row (fun cdv A outer s H E hr => ?_)
  have hu := hr.units
  have nd := sc_is_row.nd
  have tk : Takes (cxOf (L2.CX P w) P w Γ.K mg base ["words", "word", "rest", "part"] "is_row" (defScope s_is_row) f cdv A outer s H E) (fun cls d _ H => E cls d H) := takes_of rfl rfl rfl rfl
  exact ⟨_, (pss_cons (ps_asg (pv 0) (k_star (K := Γ.K) rfl rfl (pg_name (i := 1) nd rfl (Or.inl rfl)) (pg_name (i := 2) nd rfl (Or.inl rfl))))
      (pss_cons (ps_if (pt_cmpR (k_in (K := Γ.K) rfl) (pv 1) (pe_tup (pa_cons pe_str (pa_cons pe_str pa_nil))) (by rfl)) (pss_one (ps_ret (pe_and (pe_cmpR (k_eq (K := Γ.K) rfl hu) (pe_callB (k_len (K := Γ.K) rfl) (by rfl) T.z_len (by decide +kernel) (pa_cons (pv 2) pa_nil)) pe_int (nomark _)) (pe_and (pe_dMP D_is_part 1 [] [0] (fun _ h => nomatch h) (fun _ _ _ _ _ _ _ us mv ws hk h1 h2 h3 => match us, mv, ws, h1, h2, h3 with | [_], [], [], _, _, _ => rfl) (hr.mono (by decide)) tk (by rfl) (pa_cons (pe_ix (k_ix (K := Γ.K) rfl) (pv 2) pe_int (fun _ _ => rfl)) pa_nil)) (pe_one (pe_dMP D_is_sum 1 [] [0] (fun _ h => nomatch h) (fun _ _ _ _ _ _ _ us mv ws hk h1 h2 h3 => match us, mv, ws, h1, h2, h3 with | [_], [], [], _, _, _ => rfl) (hr.mono (by decide)) tk (by rfl) (pa_cons (pe_ix (k_ix (K := Γ.K) rfl) (pv 2) pe_int (fun _ _ => rfl)) pa_nil))))))) pss_nil)
      (pss_cons (ps_if (pt_cmpR (k_in (K := Γ.K) rfl) (pv 1) (pe_tup (pa_cons pe_str (pa_cons pe_str pa_nil))) (by rfl)) (pss_one (ps_ret (pe_and (pe_cmpR (k_eq (K := Γ.K) rfl hu) (pe_callB (k_len (K := Γ.K) rfl) (by rfl) T.z_len (by decide +kernel) (pa_cons (pv 2) pa_nil)) pe_int (nomark _)) (pe_one (pe_dMP D_is_part 1 [] [0] (fun _ h => nomatch h) (fun _ _ _ _ _ _ _ us mv ws hk h1 h2 h3 => match us, mv, ws, h1, h2, h3 with | [_], [], [], _, _, _ => rfl) (hr.mono (by decide)) tk (by rfl) (pa_cons (pe_ix (k_ix (K := Γ.K) rfl) (pv 2) pe_int (fun _ _ => rfl)) pa_nil)))))) pss_nil)
      (pss_cons (ps_if (pt_cmpR (k_eq (K := Γ.K) rfl hu) (pv 1) pe_str (nomark _)) (pss_one (ps_ret (pe_and (pe_cmpR (k_eq (K := Γ.K) rfl hu) (pe_callB (k_len (K := Γ.K) rfl) (by rfl) T.z_len (by decide +kernel) (pa_cons (pv 2) pa_nil)) pe_int (nomark _)) (pe_one (pe_dMP D_is_sum 1 [] [0] (fun _ h => nomatch h) (fun _ _ _ _ _ _ _ us mv ws hk h1 h2 h3 => match us, mv, ws, h1, h2, h3 with | [_], [], [], _, _, _ => rfl) (hr.mono (by decide)) tk (by rfl) (pa_cons (pe_ix (k_ix (K := Γ.K) rfl) (pv 2) pe_int (fun _ _ => rfl)) pa_nil)))))) pss_nil)
      (pss_cons (ps_if (pt_cmpR (k_eq (K := Γ.K) rfl hu) (pv 1) pe_str (nomark _)) (pss_one (ps_ret (pe_and (pe_cmpR op_gt (pe_callB (k_len (K := Γ.K) rfl) (by rfl) T.z_len (by decide +kernel) (pa_cons (pv 2) pa_nil)) pe_int (nomark _)) (pe_and (pe_callB (k_all (K := Γ.K) rfl rfl) (by rfl) T.z_all (by decide +kernel) (pa_cons (pe_lc (own := [("part", 3)]) (g := gName 3) rfl nd (k_pi_list (K := Γ.K) rfl (pv 2)) (blkOk_by (N := ["words", "word", "rest", "part"]) (sc := defScope s_is_row) (own := [("part", 3)]) (by decide +kernel)) (fun _ _ _ _ _ => (pg_name (i := 3) nd rfl (Or.inl rfl))) (fun _ _ _ _ _ => pts_nil) (fun _ _ _ _ _ => by exact (pe_dMP D_is_part 1 [] [0] (fun _ h => nomatch h) (fun _ _ _ _ _ _ _ us mv ws hk h1 h2 h3 => match us, mv, ws, h1, h2, h3 with | [_], [], [], _, _, _ => rfl) (hr.mono (by decide)) takes0 (by rfl) (pa_cons (pv 3) pa_nil)))) pa_nil)) (pe_one (pe_dMP D_are_unlike 1 [] [0] (fun _ h => nomatch h) (fun _ _ _ _ _ _ _ us mv ws hk h1 h2 h3 => match us, mv, ws, h1, h2, h3 with | [_], [], [], _, _, _ => rfl) (hr.mono (by decide)) tk (by rfl) (pa_cons (pv 2) pa_nil))))))) pss_nil)
      (pss_cons (ps_if (pt_cmpR (k_in (K := Γ.K) rfl) (pv 1) (pe_tup (pa_cons pe_str (pa_cons pe_str pa_nil))) (by rfl)) (pss_one (ps_ret (pe_and (pe_cmpR (k_eq (K := Γ.K) rfl hu) (pe_callB (k_len (K := Γ.K) rfl) (by rfl) T.z_len (by decide +kernel) (pa_cons (pv 2) pa_nil)) pe_int (nomark _)) (pe_one (pe_dMP D_is_name 1 [] [0] (fun _ h => nomatch h) (fun _ _ _ _ _ _ _ us mv ws hk h1 h2 h3 => match us, mv, ws, h1, h2, h3 with | [_], [], [], _, _, _ => rfl) (hr.mono (by decide)) tk (by rfl) (pa_cons (pe_ix (k_ix (K := Γ.K) rfl) (pv 2) pe_int (fun _ _ => rfl)) pa_nil)))))) pss_nil)
      (pss_cons (ps_if (pt_cmpR (k_eq (K := Γ.K) rfl hu) (pv 1) pe_str (nomark _)) (pss_one (ps_ret (pe_or (pe_and (pe_cmpR (k_eq (K := Γ.K) rfl hu) (pe_callB (k_len (K := Γ.K) rfl) (by rfl) T.z_len (by decide +kernel) (pa_cons (pv 2) pa_nil)) pe_int (nomark _)) (pe_one (pe_dMP D_is_name 1 [] [0] (fun _ h => nomatch h) (fun _ _ _ _ _ _ _ us mv ws hk h1 h2 h3 => match us, mv, ws, h1, h2, h3 with | [_], [], [], _, _, _ => rfl) (hr.mono (by decide)) tk (by rfl) (pa_cons (pe_ix (k_ix (K := Γ.K) rfl) (pv 2) pe_int (fun _ _ => rfl)) pa_nil)))) (pe_one (pe_dMP D_is_bound 1 [] [0] (fun _ h => nomatch h) (fun _ _ _ _ _ _ _ us mv ws hk h1 h2 h3 => match us, mv, ws, h1, h2, h3 with | [_], [], [], _, _, _ => rfl) (hr.mono (by decide)) tk (by rfl) (pa_cons (pv 2) pa_nil)))))) pss_nil)
      (pss_cons (ps_if (pt_cmpR (k_in (K := Γ.K) rfl) (pv 1) (pe_tup (pa_cons pe_str (pa_cons pe_str pa_nil))) (by rfl)) (pss_one (ps_ret (pe_dMP D_is_bound 1 [] [0] (fun _ h => nomatch h) (fun _ _ _ _ _ _ _ us mv ws hk h1 h2 h3 => match us, mv, ws, h1, h2, h3 with | [_], [], [], _, _, _ => rfl) (hr.mono (by decide)) tk (by rfl) (pa_cons (pv 2) pa_nil)))) pss_nil)
      (pss_one (ps_ret (pe_and (pe_cmpR (k_eq (K := Γ.K) rfl hu) (pv 1) pe_str (nomark _)) (pe_one (pe_dMP D_is_taken 1 [] [0] (fun _ h => nomatch h) (fun _ _ _ _ _ _ _ us mv ws hk h1 h2 h3 => match us, mv, ws, h1, h2, h3 with | [_], [], [], _, _, _ => rfl) (hr.mono (by decide)) tk (by rfl) (pa_cons (pv 2) pa_nil)))))))))))))), (sv_seq (sv_asg (ev_v 0) (gv_star gv_name gv_name))
      (sv_seq (sv_if (tv_test (ev_op ro_in (ev_v 1) (ev_tup (av_cons ev_str (av_cons ev_str av_nil))))) (sv_ret (ev_andV (ev_op ro_eq (ev_cb rc_len (av_cons (ev_v 2) av_nil)) ev_int) (ev_andV (ev_call (fun _ _ => RpL.nil) (av_cons (ev_op ro_ix (ev_v 2) ev_int) av_nil) av_nil) (ev_call (fun _ _ => RpL.nil) (av_cons (ev_op ro_ix (ev_v 2) ev_int) av_nil) av_nil)))) sv_next)
      (sv_seq (sv_if (tv_test (ev_op ro_in (ev_v 1) (ev_tup (av_cons ev_str (av_cons ev_str av_nil))))) (sv_ret (ev_andV (ev_op ro_eq (ev_cb rc_len (av_cons (ev_v 2) av_nil)) ev_int) (ev_call (fun _ _ => RpL.nil) (av_cons (ev_op ro_ix (ev_v 2) ev_int) av_nil) av_nil))) sv_next)
      (sv_seq (sv_if (tv_test (ev_op ro_eq (ev_v 1) ev_str)) (sv_ret (ev_andV (ev_op ro_eq (ev_cb rc_len (av_cons (ev_v 2) av_nil)) ev_int) (ev_call (fun _ _ => RpL.nil) (av_cons (ev_op ro_ix (ev_v 2) ev_int) av_nil) av_nil))) sv_next)
      (sv_seq (sv_if (tv_test (ev_op ro_eq (ev_v 1) ev_str)) (sv_ret (ev_andV (ev_op ro_gt (ev_cb rc_len (av_cons (ev_v 2) av_nil)) ev_int) (ev_andV (ev_cb rc_all (av_cons (ev_lc (iv_list (ev_v 2)) gv_name (gl_name (by decide)) tv_yes (ev_call (fun _ _ => RpL.nil) (av_cons (ev_v 3) av_nil) av_nil)) av_nil)) (ev_call (fun _ _ => RpL.nil) (av_cons (ev_v 2) av_nil) av_nil)))) sv_next)
      (sv_seq (sv_if (tv_test (ev_op ro_in (ev_v 1) (ev_tup (av_cons ev_str (av_cons ev_str av_nil))))) (sv_ret (ev_andV (ev_op ro_eq (ev_cb rc_len (av_cons (ev_v 2) av_nil)) ev_int) (ev_call (fun _ _ => RpL.nil) (av_cons (ev_op ro_ix (ev_v 2) ev_int) av_nil) av_nil))) sv_next)
      (sv_seq (sv_if (tv_test (ev_op ro_eq (ev_v 1) ev_str)) (sv_ret (ev_orV (ev_andV (ev_op ro_eq (ev_cb rc_len (av_cons (ev_v 2) av_nil)) ev_int) (ev_call (fun _ _ => RpL.nil) (av_cons (ev_op ro_ix (ev_v 2) ev_int) av_nil) av_nil)) (ev_call (fun _ _ => RpL.nil) (av_cons (ev_v 2) av_nil) av_nil))) sv_next)
      (sv_seq (sv_if (tv_test (ev_op ro_in (ev_v 1) (ev_tup (av_cons ev_str (av_cons ev_str av_nil))))) (sv_ret (ev_call (fun _ _ => RpL.nil) (av_cons (ev_v 2) av_nil) av_nil)) sv_next)
      (sv_ret (ev_andV (ev_op ro_eq (ev_v 1) ev_str) (ev_call (fun _ _ => RpL.nil) (av_cons (ev_v 2) av_nil) av_nil)))))))))))⟩
theorem ok_read_rows {f : Addr} {fd : FuncData} (F : FunD Γ.K "read_rows" "read_rows" (defArgs s_read_rows) (defBody s_read_rows) (defScope s_read_rows) [] [("most", .int 12)] f fd) (T : Glb Γ mg) (D_NoBody___init__ : DefX P w Γ.K mg base (Γ.c 5) "NoBody.__init__" s_NoBody___init__ 4 ["self", "row", "trail"] [("trail", .ref (Γ.c 37))] ["trail", "row"] bsV) (D_is_row : DefM P w Γ.K mg base "is_row" s_is_row 5 ["words"] [] (FM Γ m_is_row)) : FnOk P w Γ.K mg base (L2.CX P w) 6 f fd ["text", "most"] (FM Γ m_read_rows) := by
  refine okN F sc_read_rows (fun cdv A outer s H E hr => ?_)
  have hu := hr.units
  have nd := sc_read_rows.nd
  have tk : Takes (cxOf (L2.CX P w) P w Γ.K mg base ["text", "most", "rows", "found", "place", "words", "row"] "read_rows" (defScope s_read_rows) f cdv A outer s H E) (fun cls d _ H => E cls d H) := takes_of rfl rfl rfl rfl
  exact ⟨_, (pss_cons (ps_if (pt_not (pt_val (pe_callB (k_isU (K := Γ.K) rfl) (by rfl) T.z_isinstance (by decide +kernel) (pa_cons (pv 0) (pa_cons (pe_bltn (v := .ty "str") (by rfl) T.z_str (by decide +kernel) rfl) pa_nil))))) (pss_one (ps_raise rfl tk (pmk_dX D_NoBody___init__ 2 (List.cons_ne_nil _ _) rfl (fun _ _ _ _ _ _ us ks h1 h2 => match us, ks, h1, h2 with | [_, _], [_], _, _ => ⟨_, _, _, _, _, _, rfl, rfl, rfl⟩) (hr.mono (by decide)) tk (by rfl) T.g_NoBody (pa_cons pe_non pa_nil)))) pss_nil)
      (pss_cons (ps_setLc (i := 2) (own := [("row", 6)]) (g := gName 6) rfl nd rfl rfl (sw_true rfl rfl rfl (by decide +kernel)) (k_pi_list (K := Γ.K) rfl (k_bm (K := Γ.K) rfl PySem.F.plainAttrs_str PySem.F.slot_str_split PySem.F.type_str_split umt_split (pv 0) (pa_cons pe_str pa_nil))) (blkOk_by (N := ["text", "most", "rows", "found", "place", "words", "row"]) (sc := defScope s_read_rows) (own := [("row", 6)]) (by decide +kernel)) (fun _ _ _ _ _ => (pg_name (i := 6) nd rfl (Or.inl rfl))) (fun _ _ _ _ _ => (pts_one (pt_cmpR (k_ne (K := Γ.K) rfl hu) (pv 0) pe_str (nomark _)))) (fun _ _ _ _ _ => by exact (pv 6)))
      (pss_cons (ps_if (pt_cmpR op_gt (pe_callB (k_len (K := Γ.K) rfl) (by rfl) T.z_len (by decide +kernel) (pa_cons (pv 2) pa_nil)) (pv 1) (nomark _)) (pss_one (ps_raise rfl tk (pmk_dX D_NoBody___init__ 2 (List.cons_ne_nil _ _) rfl (fun _ _ _ _ _ _ us ks h1 h2 => match us, ks, h1, h2 with | [_, _], [_], _, _ => ⟨_, _, _, _, _, _, rfl, rfl, rfl⟩) (hr.mono (by decide)) tk (by rfl) T.g_NoBody (pa_cons pe_non pa_nil)))) pss_nil)
      (pss_cons (ps_setLc (i := 3) (own := [("row", 6)]) (g := gName 6) rfl nd rfl rfl (sw_true rfl rfl rfl (by decide +kernel)) (k_pi_list (K := Γ.K) rfl (pv 2)) (blkOk_by (N := ["text", "most", "rows", "found", "place", "words", "row"]) (sc := defScope s_read_rows) (own := [("row", 6)]) (by decide +kernel)) (fun _ _ _ _ _ => (pg_name (i := 6) nd rfl (Or.inl rfl))) (fun _ _ _ _ _ => pts_nil) (fun _ _ _ _ _ => by exact (pe_callTy (k_tupOf (K := Γ.K) rfl) (by rfl) T.z_tuple (by decide +kernel) (pa_cons (k_bm (K := Γ.K) rfl PySem.F.plainAttrs_str PySem.F.slot_str_split PySem.F.type_str_split umt_split (pv 6) (pa_cons pe_str pa_nil)) pa_nil))))
      (pss_cons (ps_for (passes_of rfl) rfl (k_pi_enum (K := Γ.K) rfl (by rfl) T.z_enumerate (pa_cons (pv 3) pa_nil)) (k_pg_tup (K := Γ.K) rfl rfl (pgs_cons (pg_name (i := 4) nd rfl (Or.inl rfl)) (pgs_cons (pg_name (i := 5) nd rfl (Or.inl rfl)) pgs_nil))) (pss_one (ps_if (pt_not (pt_val (pe_dMP D_is_row 1 [] [0] (fun _ h => nomatch h) (fun _ _ _ _ _ _ _ us mv ws hk h1 h2 h3 => match us, mv, ws, h1, h2, h3 with | [_], [], [], _, _, _ => rfl) (hr.mono (by decide)) tk (by rfl) (pa_cons (pv 5) pa_nil)))) (pss_one (ps_raise rfl tk (pmk_dX D_NoBody___init__ 2 (List.cons_ne_nil _ _) rfl (fun _ _ _ _ _ _ us ks h1 h2 => match us, ks, h1, h2 with | [_, _], [_], _, _ => ⟨_, _, _, _, _, _, rfl, rfl, rfl⟩) (hr.mono (by decide)) tk (by rfl) T.g_NoBody (pa_cons (pv 4) pa_nil)))) pss_nil)))
      (pss_one (ps_ret (pv 3)))))))), (sv_seq (sv_if (tv_not (tv_B (ev_cb (rc_isi T.tab) (av_cons (ev_v 0) (av_cons ev_ty av_nil))))) (sv_raiseX (fun _ hg => (.cons (Rp.ktp (hg ▸ T.q_NoBody) .nil) RpL.nil)) (av_cons ev_non av_nil)) sv_next)
      (sv_seq (sv_asg (ev_lc (iv_list (ev_bm rm_split (ev_v 0) (av_cons ev_str av_nil))) gv_name (gl_name (by decide)) (tv_test (ev_op ro_ne (ev_v 0) ev_str)) (ev_v 6)) gv_name)
      (sv_seq (sv_if (tv_test (ev_op ro_gt (ev_cb rc_len (av_cons (ev_v 2) av_nil)) (ev_v 1))) (sv_raiseX (fun _ hg => (.cons (Rp.ktp (hg ▸ T.q_NoBody) .nil) RpL.nil)) (av_cons ev_non av_nil)) sv_next)
      (sv_seq (sv_asg (ev_lc (iv_list (ev_v 2)) gv_name (gl_name (by decide)) tv_yes (ev_cb rc_tup (av_cons (ev_bm rm_split (ev_v 6) (av_cons ev_str av_nil)) av_nil))) gv_name)
      (sv_seq (sv_for (iv_enum (av_cons (ev_v 3) av_nil)) (gv_tup (gvs_cons gv_name (gvs_cons gv_name gvs_nil))) (sv_if (tv_not (tv_B (ev_call (fun _ _ => RpL.nil) (av_cons (ev_v 5) av_nil) av_nil))) (sv_raiseX (fun _ hg => (.cons (Rp.ktp (hg ▸ T.q_NoBody) .nil) RpL.nil)) (av_cons (ev_v 4) av_nil)) sv_next))
      (sv_ret (ev_v 3)))))))⟩
theorem ok_read_body {f : Addr} {fd : FuncData} (F : FunD Γ.K "read_body" "read_body" (defArgs s_read_body) (defBody s_read_body) (defScope s_read_body) [] [] f fd) (T : Glb Γ mg) (D_read_rows : DefM P w Γ.K mg base "read_rows" s_read_rows 6 ["text", "most"] [("most", .int 12)] (FM Γ m_read_rows)) : FnOk P w Γ.K mg base (L2.CX P w) 7 f fd ["text"] (FM Γ m_read_body) := by
  refine okN F sc_read_body (fun cdv A outer s H E hr => ?_)
  have hu := hr.units
  have nd := sc_read_body.nd
  have tk : Takes (cxOf (L2.CX P w) P w Γ.K mg base ["text"] "read_body" (defScope s_read_body) f cdv A outer s H E) (fun cls d _ H => E cls d H) := takes_of rfl rfl rfl rfl
  exact ⟨_, (pss_one (ps_ret (pe_dMP D_read_rows 1 [("most", .int 12)] [0, 1] (by simp) (fun _ _ _ _ _ _ _ us mv ws hk h1 h2 h3 => match us, mv, ws, h1, h2, h3 with | [_], [_], [], _, _, _ => by cases hk (by decide); exact ⟨_, _, _, _, _, _, rfl, rfl, rfl⟩) (hr.mono (by decide)) tk (by rfl) (pa_cons (pv 0) pa_nil)))), (sv_ret (ev_call (fun _ _ => (.cons (Rp.int _) RpL.nil)) (av_cons (ev_v 0) av_nil) av_nil))⟩
theorem ok_Forms_form {f : Addr} {fd : FuncData} (F : FunD Γ.K "form" "Forms.form" (defArgs s_Forms_form) (defBody s_Forms_form) (defScope s_Forms_form) [] [] f fd) (T : Glb Γ mg) (D_Store_entry : DefN P w Γ.K mg base (Γ.c 14) "entry" "Store.entry" s_Store_entry 4 ["self", "name"] [] (FM Γ m_Store_entry)) (D_NotFound___init__ : DefX P w Γ.K mg base (Γ.c 6) "NotFound.__init__" s_NotFound___init__ 4 ["self", "name", "trail"] [("trail", .ref (Γ.c 38))] ["trail", "name"] bsL) (D_Forms_holds : DefN P w Γ.K mg base (Γ.c 16) "holds" "Forms.holds" s_Forms_holds 5 ["self", "store", "name"] [] (FM Γ m_Forms_holds)) (D_read_body : DefM P w Γ.K mg base "read_body" s_read_body 7 ["text"] [] (FM Γ m_read_body)) : FnOk P w Γ.K mg base (L2.CX P w) 8 f fd ["self", "store", "name"] (FM Γ m_Forms_form) := by
  refine okN F sc_Forms_form (fun cdv A outer s H E hr => ?_)
  have hu := hr.units
  have nd := sc_Forms_form.nd
  have tk : Takes (cxOf (L2.CX P w) P w Γ.K mg base ["self", "store", "name", "lies", "rows"] "Forms.form" (defScope s_Forms_form) f cdv A outer s H E) (fun cls d _ H => E cls d H) := takes_of rfl rfl rfl rfl
  exact ⟨_, (pss_cons (ps_set (i := 3) nd rfl (Or.inl rfl) (pe_mtMP (K := Γ.K) rfl (pv 1) (tbl1_of (methB_of D_Store_entry 1 [] [] [0, 1] (fun _ h => nomatch h) (fun _ _ _ _ _ _ _ us mv ws hk h1 h2 h3 => match us, mv, ws, h1, h2, h3 with | [_, _], [], [], _, _, _ => rfl))) (hr.mono (by decide)) (fun σ => passAt tk σ) (pa_cons (pv 2) pa_nil)))
      (pss_cons (ps_if (pt_cmpR op_isN (pv 3) pe_non (nomark _)) (pss_one (ps_raise rfl tk (pmk_dX D_NotFound___init__ 2 (List.cons_ne_nil _ _) rfl (fun _ _ _ _ _ _ us ks h1 h2 => match us, ks, h1, h2 with | [_, _], [_], _, _ => ⟨_, _, _, _, _, _, rfl, rfl, rfl⟩) (hr.mono (by decide)) tk (by rfl) T.g_NotFound (pa_cons (pv 2) pa_nil)))) pss_nil)
      (pss_cons (ps_if (pt_not (pt_val (pe_mtMP (K := Γ.K) rfl (pv 0) (tbl1_of (methB_of D_Forms_holds 2 [] [] [0, 1, 2] (fun _ h => nomatch h) (fun _ _ _ _ _ _ _ us mv ws hk h1 h2 h3 => match us, mv, ws, h1, h2, h3 with | [_, _, _], [], [], _, _, _ => rfl))) (hr.mono (by decide)) (fun σ => passAt tk σ) (pa_cons (pv 1) (pa_cons (pv 2) pa_nil))))) (pss_cons (ps_set (i := 4) nd rfl (Or.inl rfl) (pe_callTy (k_tupOf (K := Γ.K) rfl) (by rfl) T.z_tuple (by decide +kernel) (pa_cons (pe_dMP D_read_body 1 [] [0] (fun _ h => nomatch h) (fun _ _ _ _ _ _ _ us mv ws hk h1 h2 h3 => match us, mv, ws, h1, h2, h3 with | [_], [], [], _, _, _ => rfl) (hr.mono (by decide)) tk (by rfl) (pa_cons (pe_ix (k_ix (K := Γ.K) rfl) (pv 3) pe_int (fun _ _ => rfl)) pa_nil)) pa_nil)))
      (pss_cons (k_fldS (K := Γ.K) rfl (pv 0) (pe_op uop_add (k_fldU (K := Γ.K) rfl (pv 0)) pe_int))
      (pss_cons (ps_dput (hu_of hr) (k_fldU (K := Γ.K) rfl (pv 0)) (pe_tup (pa_cons (k_fldU (K := Γ.K) rfl (pv 1)) (pa_cons (pv 2) pa_nil))) (pe_tup (pa_cons (pe_ix (k_ix (K := Γ.K) rfl) (pv 3) pe_int (fun _ _ => rfl)) (pa_cons (pe_ix (k_ix (K := Γ.K) rfl) (pv 3) pe_int (fun _ _ => rfl)) (pa_cons (pv 4) pa_nil)))) (by rfl))
      (pss_one (k_fldS (K := Γ.K) rfl (pv 0) (pe_callB k_lenT (by rfl) T.z_len (by decide +kernel) (pa_cons (k_fldU (K := Γ.K) rfl (pv 0)) pa_nil))))))) pss_nil)
      (pss_one (ps_ret (pe_callTy (k_lstOf (K := Γ.K) rfl) (by rfl) T.z_list (by decide +kernel) (pa_cons (pe_ix (k_ix (K := Γ.K) rfl) (pe_dget (hu_of hr) (k_fldU (K := Γ.K) rfl (pv 0)) (pe_tup (pa_cons (k_fldU (K := Γ.K) rfl (pv 1)) (pa_cons (pv 2) pa_nil))) (fun _ _ => rfl)) pe_int (fun _ _ => rfl)) pa_nil))))))), (sv_seq (sv_asg (ev_meth (fun _ _ => RpL.nil) (ev_v 1) (av_cons (ev_v 2) av_nil) av_nil) gv_name)
      (sv_seq (sv_if (tv_test (ev_op ro_isN (ev_v 3) ev_non)) (sv_raiseX (fun _ hg => (.cons (Rp.ktp (hg ▸ T.q_NotFound) .nil) RpL.nil)) (av_cons (ev_v 2) av_nil)) sv_next)
      (sv_seq (sv_if (tv_not (tv_B (ev_meth (fun _ _ => RpL.nil) (ev_v 0) (av_cons (ev_v 1) (av_cons (ev_v 2) av_nil)) av_nil))) (sv_seq (sv_asg (ev_cb rc_tup (av_cons (ev_call (fun _ _ => RpL.nil) (av_cons (ev_op ro_ix (ev_v 3) ev_int) av_nil) av_nil) av_nil)) gv_name)
      (sv_seq (sv_fld T.ni (ev_op ro_add (ev_fldU T.nx T.ni (ev_v 0)) ev_int) (ev_v 0))
      (sv_seq (sv_tput (ev_tup (av_cons (ev_op ro_ix (ev_v 3) ev_int) (av_cons (ev_op ro_ix (ev_v 3) ev_int) (av_cons (ev_v 4) av_nil)))) (ev_fldU T.nx T.ni (ev_v 0)) (ev_tup (av_cons (ev_fldU T.nx T.ni (ev_v 1)) (av_cons (ev_v 2) av_nil))))
      (sv_fld T.ni (ev_cb rc_lenT (av_cons (ev_fldU T.nx T.ni (ev_v 0)) av_nil)) (ev_v 0))))) sv_next)
      (sv_ret (ev_cb rc_lst (av_cons (ev_op ro_ix (ev_tget (ev_fldU T.nx T.ni (ev_v 0)) (ev_tup (av_cons (ev_fldU T.nx T.ni (ev_v 1)) (av_cons (ev_v 2) av_nil)))) ev_int) av_nil))))))⟩
theorem ok_Forms_stale {f : Addr} {fd : FuncData} (F : FunD Γ.K "stale" "Forms.stale" (defArgs s_Forms_stale) (defBody s_Forms_stale) (defScope s_Forms_stale) [] [] f fd) (T : Glb Γ mg) (D_Forms_holds : DefN P w Γ.K mg base (Γ.c 16) "holds" "Forms.holds" s_Forms_holds 5 ["self", "store", "name"] [] (FM Γ m_Forms_holds)) (D_Store_entry : DefN P w Γ.K mg base (Γ.c 14) "entry" "Store.entry" s_Store_entry 4 ["self", "name"] [] (FM Γ m_Store_entry)) : FnOk P w Γ.K mg base (L2.CX P w) 6 f fd ["self", "store"] (FM Γ m_Forms_stale) := by
  refine okN F sc_Forms_stale (fun cdv A outer s H E hr => ?_)
  have hu := hr.units
  have nd := sc_Forms_stale.nd
  have tk : Takes (cxOf (L2.CX P w) P w Γ.K mg base ["self", "store", "found", "one", "name"] "Forms.stale" (defScope s_Forms_stale) f cdv A outer s H E) (fun cls d _ H => E cls d H) := takes_of rfl rfl rfl rfl
  exact ⟨_, (pss_cons (ps_lock (ps_setLc (i := 2) (own := [("one", 3), ("name", 4)]) rfl nd rfl rfl (sw_true rfl rfl rfl (by decide +kernel)) (pi_keys (k_fldU (K := Γ.K) rfl (pv 0))) (blkOk_by (N := ["self", "store", "found", "one", "name"]) (sc := defScope s_Forms_stale) (own := [("one", 3), ("name", 4)]) (by decide +kernel)) (fun _ _ _ _ _ => (k_pg_tup (K := Γ.K) rfl rfl (pgs_cons (pg_name (i := 3) nd rfl (Or.inl rfl)) (pgs_cons (pg_name (i := 4) nd rfl (Or.inl rfl)) pgs_nil)))) (fun _ _ _ _ _ => (pts_one (PW.pt (pw_and (pt_cmpR (k_eq (K := Γ.K) rfl hu) (pv 3) (k_fldU (K := Γ.K) rfl (pv 1)) (nomark _)) (pw_and1 (pt_val (pe_mtMP (K := Γ.K) rfl (pv 0) (tbl1_of (methB_of D_Forms_holds 2 [] [] [0, 1, 2] (fun _ h => nomatch h) (fun _ _ _ _ _ _ _ us mv ws hk h1 h2 h3 => match us, mv, ws, h1, h2, h3 with | [_, _, _], [], [], _, _, _ => rfl))) (hr.mono (by decide)) (fun σ => passAt takes0 σ) (pa_cons (pv 1) (pa_cons (pv 4) pa_nil))))))))) (fun _ _ _ _ _ => by exact (pv 4))))
      (pss_one (ps_ret (pe_callB (k_sortU (K := Γ.K) rfl rfl) (by rfl) T.z_sorted (by decide +kernel) (pa_cons (pe_lc (own := [("name", 4)]) (g := gName 4) rfl nd (k_pi_list (K := Γ.K) rfl (pv 2)) (blkOk_by (N := ["self", "store", "found", "one", "name"]) (sc := defScope s_Forms_stale) (own := [("name", 4)]) (by decide +kernel)) (fun _ _ _ _ _ => (pg_name (i := 4) nd rfl (Or.inl rfl))) (fun _ _ _ _ _ => (pts_one (pt_cmpR (k_ne (K := Γ.K) rfl hu) (pe_ix (k_ix (K := Γ.K) rfl) (pe_dget (hu_of hr) (k_fldU (K := Γ.K) rfl (pv 0)) (pe_tup (pa_cons (k_fldU (K := Γ.K) rfl (pv 1)) (pa_cons (pv 4) pa_nil))) (fun _ _ => rfl)) pe_int (fun _ _ => rfl)) (pe_ix (k_ix (K := Γ.K) rfl) (pe_mtMP (K := Γ.K) rfl (pv 1) (tbl1_of (methB_of D_Store_entry 1 [] [] [0, 1] (fun _ h => nomatch h) (fun _ _ _ _ _ _ _ us mv ws hk h1 h2 h3 => match us, mv, ws, h1, h2, h3 with | [_, _], [], [], _, _, _ => rfl))) (hr.mono (by decide)) (fun σ => passAt takes0 σ) (pa_cons (pv 4) pa_nil)) pe_int (fun _ _ => rfl)) (nomark _)))) (fun _ _ _ _ _ => by exact (pv 4))) pa_nil))))), (sv_seq (sv_lockT (sv_asg (ev_lc (iv_keysT (ev_fldU T.nx T.ni (ev_v 0))) (gv_tup (gvs_cons gv_name (gvs_cons gv_name gvs_nil))) (gl_tup (gls_name (by decide) (gls_name (by decide) gls_nil))) (tv_and (tv_test (ev_op ro_eq (ev_v 3) (ev_fldU T.nx T.ni (ev_v 1)))) (tv_B (ev_meth (fun _ _ => RpL.nil) (ev_v 0) (av_cons (ev_v 1) (av_cons (ev_v 4) av_nil)) av_nil))) (ev_v 4)) gv_name))
      (sv_ret (ev_cb rc_sort (av_cons (ev_lc (iv_list (ev_v 2)) gv_name (gl_name (by decide)) (tv_test (ev_op ro_ne (ev_op ro_ix (ev_tget (ev_fldU T.nx T.ni (ev_v 0)) (ev_tup (av_cons (ev_fldU T.nx T.ni (ev_v 1)) (av_cons (ev_v 4) av_nil)))) ev_int) (ev_op ro_ix (ev_meth (fun _ _ => RpL.nil) (ev_v 1) (av_cons (ev_v 4) av_nil) av_nil) ev_int))) (ev_v 4)) av_nil))))⟩
theorem ok_Forms_drop {f : Addr} {fd : FuncData} (F : FunD Γ.K "drop" "Forms.drop" (defArgs s_Forms_drop) (defBody s_Forms_drop) (defScope s_Forms_drop) [] [] f fd) (T : Glb Γ mg)  : FnOk P w Γ.K mg base (L2.CX P w) 1 f fd ["self", "store", "name"] (FM Γ m_Forms_drop) := by
  refine okN F sc_Forms_drop (fun cdv A outer s H E hr => ?_)
  have hu := hr.units
  have nd := sc_Forms_drop.nd
  have tk : Takes (cxOf (L2.CX P w) P w Γ.K mg base ["self", "store", "name", "found"] "Forms.drop" (defScope s_Forms_drop) f cdv A outer s H E) (fun cls d _ H => E cls d H) := takes_of rfl rfl rfl rfl
  exact ⟨_, (pss_cons (ps_set (i := 3) nd rfl (Or.inl rfl) (k_bm (K := Γ.K) rfl PySem.F.plainAttrs_dict PySem.F.slot_dict_pop PySem.F.type_dict_pop (k_tpop (hu_of hr)) (k_fldU (K := Γ.K) rfl (pv 0)) (pa_cons (pe_tup (pa_cons (k_fldU (K := Γ.K) rfl (pv 1)) (pa_cons (pv 2) pa_nil))) (pa_cons pe_non pa_nil))))
      (pss_cons (k_fldS (K := Γ.K) rfl (pv 0) (pe_callB k_lenT (by rfl) T.z_len (by decide +kernel) (pa_cons (k_fldU (K := Γ.K) rfl (pv 0)) pa_nil)))
      (pss_one (ps_ret (pe_cmpR op_notN (pv 3) pe_non (nomark _)))))), (sv_seq (sv_asg (ev_bm rm_tpop (ev_fldU T.nx T.ni (ev_v 0)) (av_cons (ev_tup (av_cons (ev_fldU T.nx T.ni (ev_v 1)) (av_cons (ev_v 2) av_nil))) (av_cons ev_non av_nil))) gv_name)
      (sv_seq (sv_fld T.ni (ev_cb rc_lenT (av_cons (ev_fldU T.nx T.ni (ev_v 0)) av_nil)) (ev_v 0))
      (sv_ret (ev_op ro_notN (ev_v 3) ev_non))))⟩
theorem ok_law_older_good {f : Addr} {fd : FuncData} (F : FunD Γ.K "_law_older_good" "_law_older_good" (defArgs s_law_older_good) (defBody s_law_older_good) (defScope s_law_older_good) [] [] f fd) (T : Glb Γ mg) (D_Store_put : DefN P w Γ.K mg base (Γ.c 14) "put" "Store.put" s_Store_put 6 ["self", "name", "text", "pack", "at"] [("pack", .bl false), ("at", .int 0)] (FM Γ m_Store_put)) (D_Forms_form : DefN P w Γ.K mg base (Γ.c 16) "form" "Forms.form" s_Forms_form 8 ["self", "store", "name"] [] (FM Γ m_Forms_form)) (D_read_body : DefM P w Γ.K mg base "read_body" s_read_body 7 ["text"] [] (FM Γ m_read_body)) (D_Forms_stale : DefN P w Γ.K mg base (Γ.c 16) "stale" "Forms.stale" s_Forms_stale 6 ["self", "store"] [] (FM Γ m_Forms_stale)) (D_Forms_drop : DefN P w Γ.K mg base (Γ.c 16) "drop" "Forms.drop" s_Forms_drop 1 ["self", "store", "name"] [] (FM Γ m_Forms_drop)) : FnOk P w Γ.K mg base (L2.CX P w) 9 f fd ["_law_store", "_law_forms", "_law_first", "_law_second"] (FM Γ m_law_older_good) := by
  refine okN F sc_law_older_good (fun cdv A outer s H E hr => ?_)
  have hu := hr.units
  have nd := sc_law_older_good.nd
  have tk : Takes (cxOf (L2.CX P w) P w Γ.K mg base ["_law_store", "_law_forms", "_law_first", "_law_second"] "_law_older_good" (defScope s_law_older_good) f cdv A outer s H E) (fun cls d _ H => E cls d H) := takes_of rfl rfl rfl rfl
  exact ⟨_, (pss_cons (ps_expr (pe_mtM (K := Γ.K) rfl (pv 0) (tbl1_of (methB_of D_Store_put 2 ["at"] [("pack", .bl false)] [0, 1, 2, 3, 4] (by simp) (fun _ _ _ _ _ _ _ us mv ws hk h1 h2 h3 => match us, mv, ws, h1, h2, h3 with | [_, _, _], [_], [_], _, _, _ => by cases hk (by decide); exact ⟨_, _, _, _, _, _, rfl, rfl, rfl⟩))) (hr.mono (by decide)) (fun σ => passAt tk σ) (pa_cons pe_str (pa_cons (pv 2) pa_nil)) (pk_cons pe_int pk_nil)))
      (pss_cons (ps_if (pt_cmpR (k_ne (K := Γ.K) rfl hu) (pe_mtMP (K := Γ.K) rfl (pv 1) (tbl1_of (methB_of D_Forms_form 2 [] [] [0, 1, 2] (fun _ h => nomatch h) (fun _ _ _ _ _ _ _ us mv ws hk h1 h2 h3 => match us, mv, ws, h1, h2, h3 with | [_, _, _], [], [], _, _, _ => rfl))) (hr.mono (by decide)) (fun σ => passAt tk σ) (pa_cons (pv 0) (pa_cons pe_str pa_nil))) (pe_dMP D_read_body 1 [] [0] (fun _ h => nomatch h) (fun _ _ _ _ _ _ _ us mv ws hk h1 h2 h3 => match us, mv, ws, h1, h2, h3 with | [_], [], [], _, _, _ => rfl) (hr.mono (by decide)) tk (by rfl) (pa_cons (pv 2) pa_nil)) (nomark _)) (pss_one (ps_ret pe_bl)) pss_nil)
      (pss_cons (ps_expr (pe_mtM (K := Γ.K) rfl (pv 0) (tbl1_of (methB_of D_Store_put 2 ["at"] [("pack", .bl false)] [0, 1, 2, 3, 4] (by simp) (fun _ _ _ _ _ _ _ us mv ws hk h1 h2 h3 => match us, mv, ws, h1, h2, h3 with | [_, _, _], [_], [_], _, _, _ => by cases hk (by decide); exact ⟨_, _, _, _, _, _, rfl, rfl, rfl⟩))) (hr.mono (by decide)) (fun σ => passAt tk σ) (pa_cons pe_str (pa_cons (pv 3) pa_nil)) (pk_cons pe_int pk_nil)))
      (pss_cons (ps_if (PW.pt (pw_or (pt_cmpR (k_ne (K := Γ.K) rfl hu) (pe_mtMP (K := Γ.K) rfl (pv 1) (tbl1_of (methB_of D_Forms_form 2 [] [] [0, 1, 2] (fun _ h => nomatch h) (fun _ _ _ _ _ _ _ us mv ws hk h1 h2 h3 => match us, mv, ws, h1, h2, h3 with | [_, _, _], [], [], _, _, _ => rfl))) (hr.mono (by decide)) (fun σ => passAt tk σ) (pa_cons (pv 0) (pa_cons pe_str pa_nil))) (pe_dMP D_read_body 1 [] [0] (fun _ h => nomatch h) (fun _ _ _ _ _ _ _ us mv ws hk h1 h2 h3 => match us, mv, ws, h1, h2, h3 with | [_], [], [], _, _, _ => rfl) (hr.mono (by decide)) tk (by rfl) (pa_cons (pv 2) pa_nil)) (nomark _)) (pw_or1 (pt_cmpR (k_ne (K := Γ.K) rfl hu) (pe_mtMP (K := Γ.K) rfl (pv 1) (tbl1_of (methB_of D_Forms_stale 1 [] [] [0, 1] (fun _ h => nomatch h) (fun _ _ _ _ _ _ _ us mv ws hk h1 h2 h3 => match us, mv, ws, h1, h2, h3 with | [_, _], [], [], _, _, _ => rfl))) (hr.mono (by decide)) (fun σ => passAt tk σ) (pa_cons (pv 0) pa_nil)) (pe_lst (pa_cons pe_str pa_nil)) (nomark _))))) (pss_one (ps_ret pe_bl)) pss_nil)
      (pss_cons (ps_expr (pe_mtM (K := Γ.K) rfl (pv 0) (tbl1_of (methB_of D_Store_put 2 ["at"] [("pack", .bl false)] [0, 1, 2, 3, 4] (by simp) (fun _ _ _ _ _ _ _ us mv ws hk h1 h2 h3 => match us, mv, ws, h1, h2, h3 with | [_, _, _], [_], [_], _, _, _ => by cases hk (by decide); exact ⟨_, _, _, _, _, _, rfl, rfl, rfl⟩))) (hr.mono (by decide)) (fun σ => passAt tk σ) (pa_cons pe_str (pa_cons (pv 3) pa_nil)) (pk_cons pe_int pk_nil)))
      (pss_cons (ps_if (PW.pt (pw_or (pt_cmpR (k_ne (K := Γ.K) rfl hu) (pe_mtMP (K := Γ.K) rfl (pv 1) (tbl1_of (methB_of D_Forms_form 2 [] [] [0, 1, 2] (fun _ h => nomatch h) (fun _ _ _ _ _ _ _ us mv ws hk h1 h2 h3 => match us, mv, ws, h1, h2, h3 with | [_, _, _], [], [], _, _, _ => rfl))) (hr.mono (by decide)) (fun σ => passAt tk σ) (pa_cons (pv 0) (pa_cons pe_str pa_nil))) (pe_dMP D_read_body 1 [] [0] (fun _ h => nomatch h) (fun _ _ _ _ _ _ _ us mv ws hk h1 h2 h3 => match us, mv, ws, h1, h2, h3 with | [_], [], [], _, _, _ => rfl) (hr.mono (by decide)) tk (by rfl) (pa_cons (pv 3) pa_nil)) (nomark _)) (pw_or1 (pt_cmpR (k_ne (K := Γ.K) rfl hu) (pe_mtMP (K := Γ.K) rfl (pv 1) (tbl1_of (methB_of D_Forms_stale 1 [] [] [0, 1] (fun _ h => nomatch h) (fun _ _ _ _ _ _ _ us mv ws hk h1 h2 h3 => match us, mv, ws, h1, h2, h3 with | [_, _], [], [], _, _, _ => rfl))) (hr.mono (by decide)) (fun σ => passAt tk σ) (pa_cons (pv 0) pa_nil)) (pe_lst pa_nil) (nomark _))))) (pss_one (ps_ret pe_bl)) pss_nil)
      (pss_cons (ps_expr (pe_mtM (K := Γ.K) rfl (pv 0) (tbl1_of (methB_of D_Store_put 2 ["at"] [("pack", .bl false)] [0, 1, 2, 3, 4] (by simp) (fun _ _ _ _ _ _ _ us mv ws hk h1 h2 h3 => match us, mv, ws, h1, h2, h3 with | [_, _, _], [_], [_], _, _, _ => by cases hk (by decide); exact ⟨_, _, _, _, _, _, rfl, rfl, rfl⟩))) (hr.mono (by decide)) (fun σ => passAt tk σ) (pa_cons pe_str (pa_cons (pv 2) pa_nil)) (pk_cons pe_int pk_nil)))
      (pss_cons (ps_if (PW.pt (pw_or (pt_cmpR (k_ne (K := Γ.K) rfl hu) (pe_mtMP (K := Γ.K) rfl (pv 1) (tbl1_of (methB_of D_Forms_form 2 [] [] [0, 1, 2] (fun _ h => nomatch h) (fun _ _ _ _ _ _ _ us mv ws hk h1 h2 h3 => match us, mv, ws, h1, h2, h3 with | [_, _, _], [], [], _, _, _ => rfl))) (hr.mono (by decide)) (fun σ => passAt tk σ) (pa_cons (pv 0) (pa_cons pe_str pa_nil))) (pe_dMP D_read_body 1 [] [0] (fun _ h => nomatch h) (fun _ _ _ _ _ _ _ us mv ws hk h1 h2 h3 => match us, mv, ws, h1, h2, h3 with | [_], [], [], _, _, _ => rfl) (hr.mono (by decide)) tk (by rfl) (pa_cons (pv 3) pa_nil)) (nomark _)) (pw_or1 (pt_cmpR op_notB (pe_mtMP (K := Γ.K) rfl (pv 1) (tbl1_of (methB_of D_Forms_drop 2 [] [] [0, 1, 2] (fun _ h => nomatch h) (fun _ _ _ _ _ _ _ us mv ws hk h1 h2 h3 => match us, mv, ws, h1, h2, h3 with | [_, _, _], [], [], _, _, _ => rfl))) (hr.mono (by decide)) (fun σ => passAt tk σ) (pa_cons (pv 0) (pa_cons pe_str pa_nil))) pe_bl (nomark _))))) (pss_one (ps_ret pe_bl)) pss_nil)
      (pss_cons (ps_if (pt_cmpR (k_ne (K := Γ.K) rfl hu) (pe_mtMP (K := Γ.K) rfl (pv 1) (tbl1_of (methB_of D_Forms_form 2 [] [] [0, 1, 2] (fun _ h => nomatch h) (fun _ _ _ _ _ _ _ us mv ws hk h1 h2 h3 => match us, mv, ws, h1, h2, h3 with | [_, _, _], [], [], _, _, _ => rfl))) (hr.mono (by decide)) (fun σ => passAt tk σ) (pa_cons (pv 0) (pa_cons pe_str pa_nil))) (pe_dMP D_read_body 1 [] [0] (fun _ h => nomatch h) (fun _ _ _ _ _ _ _ us mv ws hk h1 h2 h3 => match us, mv, ws, h1, h2, h3 with | [_], [], [], _, _, _ => rfl) (hr.mono (by decide)) tk (by rfl) (pa_cons (pv 2) pa_nil)) (nomark _)) (pss_one (ps_ret pe_bl)) pss_nil)
      (pss_cons (ps_expr (pe_mtM (K := Γ.K) rfl (pv 0) (tbl1_of (methB_of D_Store_put 2 ["at"] [("pack", .bl false)] [0, 1, 2, 3, 4] (by simp) (fun _ _ _ _ _ _ _ us mv ws hk h1 h2 h3 => match us, mv, ws, h1, h2, h3 with | [_, _, _], [_], [_], _, _, _ => by cases hk (by decide); exact ⟨_, _, _, _, _, _, rfl, rfl, rfl⟩))) (hr.mono (by decide)) (fun σ => passAt tk σ) (pa_cons pe_str (pa_cons (pe_op uop_add (pv 3) pe_str) pa_nil)) (pk_cons pe_int pk_nil)))
      (pss_one (ps_ret (pe_and (pe_cmpR (k_eq (K := Γ.K) rfl hu) (pe_mtMP (K := Γ.K) rfl (pv 1) (tbl1_of (methB_of D_Forms_form 2 [] [] [0, 1, 2] (fun _ h => nomatch h) (fun _ _ _ _ _ _ _ us mv ws hk h1 h2 h3 => match us, mv, ws, h1, h2, h3 with | [_, _, _], [], [], _, _, _ => rfl))) (hr.mono (by decide)) (fun σ => passAt tk σ) (pa_cons (pv 0) (pa_cons pe_str pa_nil))) (pe_dMP D_read_body 1 [] [0] (fun _ h => nomatch h) (fun _ _ _ _ _ _ _ us mv ws hk h1 h2 h3 => match us, mv, ws, h1, h2, h3 with | [_], [], [], _, _, _ => rfl) (hr.mono (by decide)) tk (by rfl) (pa_cons (pe_op uop_add (pv 3) pe_str) pa_nil)) (nomark _)) (pe_one (pe_cmpR (k_eq (K := Γ.K) rfl hu) (k_fldU (K := Γ.K) rfl (pv 1)) pe_int (nomark _)))))))))))))))), (sv_seq (sv_drop (ev_meth (fun _ _ => (.cons (Rp.bl _) RpL.nil)) (ev_v 0) (av_cons ev_str (av_cons (ev_v 2) av_nil)) (av_cons ev_int av_nil)))
      (sv_seq (sv_if (tv_test (ev_op ro_ne (ev_meth (fun _ _ => RpL.nil) (ev_v 1) (av_cons (ev_v 0) (av_cons ev_str av_nil)) av_nil) (ev_call (fun _ _ => RpL.nil) (av_cons (ev_v 2) av_nil) av_nil))) (sv_ret ev_bl) sv_next)
      (sv_seq (sv_drop (ev_meth (fun _ _ => (.cons (Rp.bl _) RpL.nil)) (ev_v 0) (av_cons ev_str (av_cons (ev_v 3) av_nil)) (av_cons ev_int av_nil)))
      (sv_seq (sv_if (tv_or (tv_test (ev_op ro_ne (ev_meth (fun _ _ => RpL.nil) (ev_v 1) (av_cons (ev_v 0) (av_cons ev_str av_nil)) av_nil) (ev_call (fun _ _ => RpL.nil) (av_cons (ev_v 2) av_nil) av_nil))) (tv_test (ev_op ro_ne (ev_meth (fun _ _ => RpL.nil) (ev_v 1) (av_cons (ev_v 0) av_nil) av_nil) (ev_lst (av_cons ev_str av_nil))))) (sv_ret ev_bl) sv_next)
      (sv_seq (sv_drop (ev_meth (fun _ _ => (.cons (Rp.bl _) RpL.nil)) (ev_v 0) (av_cons ev_str (av_cons (ev_v 3) av_nil)) (av_cons ev_int av_nil)))
      (sv_seq (sv_if (tv_or (tv_test (ev_op ro_ne (ev_meth (fun _ _ => RpL.nil) (ev_v 1) (av_cons (ev_v 0) (av_cons ev_str av_nil)) av_nil) (ev_call (fun _ _ => RpL.nil) (av_cons (ev_v 3) av_nil) av_nil))) (tv_test (ev_op ro_ne (ev_meth (fun _ _ => RpL.nil) (ev_v 1) (av_cons (ev_v 0) av_nil) av_nil) (ev_lst av_nil)))) (sv_ret ev_bl) sv_next)
      (sv_seq (sv_drop (ev_meth (fun _ _ => (.cons (Rp.bl _) RpL.nil)) (ev_v 0) (av_cons ev_str (av_cons (ev_v 2) av_nil)) (av_cons ev_int av_nil)))
      (sv_seq (sv_if (tv_or (tv_test (ev_op ro_ne (ev_meth (fun _ _ => RpL.nil) (ev_v 1) (av_cons (ev_v 0) (av_cons ev_str av_nil)) av_nil) (ev_call (fun _ _ => RpL.nil) (av_cons (ev_v 3) av_nil) av_nil))) (tv_test (ev_op ro_isB (ev_meth (fun _ _ => RpL.nil) (ev_v 1) (av_cons (ev_v 0) (av_cons ev_str av_nil)) av_nil) ev_bl))) (sv_ret ev_bl) sv_next)
      (sv_seq (sv_if (tv_test (ev_op ro_ne (ev_meth (fun _ _ => RpL.nil) (ev_v 1) (av_cons (ev_v 0) (av_cons ev_str av_nil)) av_nil) (ev_call (fun _ _ => RpL.nil) (av_cons (ev_v 2) av_nil) av_nil))) (sv_ret ev_bl) sv_next)
      (sv_seq (sv_drop (ev_meth (fun _ _ => (.cons (Rp.bl _) RpL.nil)) (ev_v 0) (av_cons ev_str (av_cons (ev_op ro_add (ev_v 3) ev_str) av_nil)) (av_cons ev_int av_nil)))
      (sv_ret (ev_andV (ev_op ro_eq (ev_meth (fun _ _ => RpL.nil) (ev_v 1) (av_cons (ev_v 0) (av_cons ev_str av_nil)) av_nil) (ev_call (fun _ _ => RpL.nil) (av_cons (ev_op ro_add (ev_v 3) ev_str) av_nil) av_nil)) (ev_op ro_eq (ev_fldU T.nx T.ni (ev_v 1)) ev_int)))))))))))))⟩
theorem ok_law_mixed {f : Addr} {fd : FuncData} (F : FunD Γ.K "_law_mixed" "_law_mixed" (defArgs s_law_mixed) (defBody s_law_mixed) (defScope s_law_mixed) [] [] f fd) (T : Glb Γ mg)  : FnOk P w Γ.K mg base (L2.CX P w) 1 f fd ["_law_cell_here", "_law_k"] (FM Γ m_law_mixed) := by
  refine okN F sc_law_mixed (fun cdv A outer s H E hr => ?_)
  have hu := hr.units
  have nd := sc_law_mixed.nd
  have tk : Takes (cxOf (L2.CX P w) P w Γ.K mg base ["_law_cell_here", "_law_k", "_law_number"] "_law_mixed" (defScope s_law_mixed) f cdv A outer s H E) (fun cls d _ H => E cls d H) := takes_of rfl rfl rfl rfl
  exact ⟨_, (pss_cons (ps_set (i := 2) nd rfl (Or.inl rfl) (pe_op op_modN (pe_op uop_add (pe_op uop_add (pe_op uop_mul (pe_op op_modN (pv 0) pe_int) pe_int) (pe_op uop_mul (pv 1) pe_int)) pe_int) pe_int))
      (pss_cons (ps_set (i := 2) nd rfl (Or.inl rfl) (pe_op op_modN (pe_op uop_mul (pv 2) (pv 2)) pe_int))
      (pss_one (ps_ret (pe_op op_modN (pe_op uop_mul (pv 2) (pe_op uop_add (pv 2) pe_int)) pe_int))))), (sv_seq (sv_asg (ev_op ro_mod (ev_op ro_add (ev_op ro_add (ev_op ro_mul (ev_op ro_mod (ev_v 0) ev_int) ev_int) (ev_op ro_mul (ev_v 1) ev_int)) ev_int) ev_int) gv_name)
      (sv_seq (sv_asg (ev_op ro_mod (ev_op ro_mul (ev_v 2) (ev_v 2)) ev_int) gv_name)
      (sv_ret (ev_op ro_mod (ev_op ro_mul (ev_v 2) (ev_op ro_add (ev_v 2) ev_int)) ev_int))))⟩
theorem ok_law_cell {f : Addr} {fd : FuncData} (F : FunD Γ.K "_law_cell" "_law_cell" (defArgs s_law_cell) (defBody s_law_cell) (defScope s_law_cell) [] [] f fd) (T : Glb Γ mg) (D_law_mixed : DefM P w Γ.K mg base "_law_mixed" s_law_mixed 1 ["_law_cell_here", "_law_k"] [] (FM Γ m_law_mixed)) : FnOk P w Γ.K mg base (L2.CX P w) 2 f fd ["_law_script", "_law_k"] (FM Γ m_law_cell) := by
  refine okN F sc_law_cell (fun cdv A outer s H E hr => ?_)
  have hu := hr.units
  have nd := sc_law_cell.nd
  have tk : Takes (cxOf (L2.CX P w) P w Γ.K mg base ["_law_script", "_law_k", "_law_cell_here", "_law_found", "_law_j"] "_law_cell" (defScope s_law_cell) f cdv A outer s H E) (fun cls d _ H => E cls d H) := takes_of rfl rfl rfl rfl
  exact ⟨_, (pss_cons (ps_set (i := 2) nd rfl (Or.inl rfl) pe_int)
      (pss_cons (ps_if (pt_cmpR op_lt (pv 1) (pe_callB (k_len (K := Γ.K) rfl) (by rfl) T.z_len (by decide +kernel) (pa_cons (pv 0) pa_nil)) (nomark _)) (pss_one (ps_set (i := 2) nd rfl (Or.inl rfl) (pe_ix (k_ix (K := Γ.K) rfl) (pv 0) (pv 1) (fun _ _ => rfl)))) pss_nil)
      (pss_cons (ps_if (pt_cmpR op_ge (pv 2) (pe_op op_pow pe_int pe_int) (nomark _)) (pss_one (ps_ret (pe_op op_modN (pe_op op_sub (pv 2) (pe_op op_pow pe_int pe_int)) (pe_op uop_mul (pe_op uop_mul (pe_op uop_mul (pe_op op_pow pe_int pe_int) (pe_op op_pow pe_int pe_int)) (pe_op op_pow pe_int pe_int)) (pe_op op_pow pe_int pe_int))))) pss_nil)
      (pss_cons (ps_set (i := 3) nd rfl (Or.inl rfl) pe_int)
      (pss_cons (ps_for (passes_of rfl) rfl (pi_range1 (by rfl) T.z_range (pa_cons pe_int pa_nil)) (pg_name (i := 4) nd rfl (Or.inl rfl)) (pss_one (ps_set (i := 3) nd rfl (Or.inl rfl) (pe_op uop_add (pe_op uop_mul (pv 3) pe_int) (pe_dMP D_law_mixed 2 [] [0, 1] (fun _ h => nomatch h) (fun _ _ _ _ _ _ _ us mv ws hk h1 h2 h3 => match us, mv, ws, h1, h2, h3 with | [_, _], [], [], _, _, _ => rfl) (hr.mono (by decide)) tk (by rfl) (pa_cons (pv 2) (pa_cons (pe_op uop_add (pe_op uop_add (pe_op uop_mul pe_int (pv 1)) (pe_op uop_mul pe_int (pv 4))) (pe_op uop_mul (pv 4) (pv 4))) pa_nil)))))))
      (pss_one (ps_ret (pv 3)))))))), (sv_seq (sv_asg ev_int gv_name)
      (sv_seq (sv_if (tv_test (ev_op ro_lt (ev_v 1) (ev_cb rc_len (av_cons (ev_v 0) av_nil)))) (sv_asg (ev_op ro_ix (ev_v 0) (ev_v 1)) gv_name) sv_next)
      (sv_seq (sv_if (tv_test (ev_op ro_ge (ev_v 2) (ev_op ro_pow ev_int ev_int))) (sv_ret (ev_op ro_mod (ev_op ro_sub (ev_v 2) (ev_op ro_pow ev_int ev_int)) (ev_op ro_mul (ev_op ro_mul (ev_op ro_mul (ev_op ro_pow ev_int ev_int) (ev_op ro_pow ev_int ev_int)) (ev_op ro_pow ev_int ev_int)) (ev_op ro_pow ev_int ev_int)))) sv_next)
      (sv_seq (sv_asg ev_int gv_name)
      (sv_seq (sv_for (iv_rng1 (av_cons ev_int av_nil)) gv_name (sv_asg (ev_op ro_add (ev_op ro_mul (ev_v 3) ev_int) (ev_call (fun _ _ => RpL.nil) (av_cons (ev_v 2) (av_cons (ev_op ro_add (ev_op ro_add (ev_op ro_mul ev_int (ev_v 1)) (ev_op ro_mul ev_int (ev_v 4))) (ev_op ro_mul (ev_v 4) (ev_v 4))) av_nil)) av_nil)) gv_name))
      (sv_ret (ev_v 3)))))))⟩
theorem ok_Lists_forget {f : Addr} {fd : FuncData} (F : FunD Γ.K "forget" "Lists.forget" (defArgs s_Lists_forget) (defBody s_Lists_forget) (defScope s_Lists_forget) [] [] f fd) (T : Glb Γ mg)  : FnOk P w Γ.K mg base (L2.CX P w) 1 f fd ["self"] (FM Γ m_Lists_forget) := by
  refine okN F sc_Lists_forget (fun cdv A outer s H E hr => ?_)
  have hu := hr.units
  have nd := sc_Lists_forget.nd
  have tk : Takes (cxOf (L2.CX P w) P w Γ.K mg base ["self"] "Lists.forget" (defScope s_Lists_forget) f cdv A outer s H E) (fun cls d _ H => E cls d H) := takes_of rfl rfl rfl rfl
  exact ⟨_, (pss_one (k_fldS (K := Γ.K) rfl (pv 0) pe_dnewK)), (sv_fld T.ni ev_dnew (ev_v 0))⟩
theorem ok_law_text_drawn {f : Addr} {fd : FuncData} (F : FunD Γ.K "_law_text_drawn" "_law_text_drawn" (defArgs s_law_text_drawn) (defBody s_law_text_drawn) (defScope s_law_text_drawn) [] [] f fd) (T : Glb Γ mg) (D_law_take : DefM P w Γ.K mg base "_law_take" s_law_take 1 ["_law_pile", "_law_size"] [] (FM Γ m_law_take)) : FnOk P w Γ.K mg base (L2.CX P w) 2 f fd ["_law_pile"] (FM Γ m_law_text_drawn) := by
  refine okN F sc_law_text_drawn (fun cdv A outer s H E hr => ?_)
  have hu := hr.units
  have nd := sc_law_text_drawn.nd
  have tk : Takes (cxOf (L2.CX P w) P w Γ.K mg base ["_law_pile", "_law_some"] "_law_text_drawn" (defScope s_law_text_drawn) f cdv A outer s H E) (fun cls d _ H => E cls d H) := takes_of rfl rfl rfl rfl
  exact ⟨_, (pss_cons (ps_set (i := 1) nd rfl (Or.inl rfl) (pe_lst (pa_cons pe_str (pa_cons pe_str (pa_cons pe_str (pa_cons pe_str (pa_cons pe_str (pa_cons pe_str (pa_cons pe_str (pa_cons pe_str pa_nil))))))))))
      (pss_cons (ps_set (i := 1) nd rfl (Or.inl rfl) (pe_op uop_add (pv 1) (pe_lst (pa_cons pe_str (pa_cons pe_str (pa_cons pe_str pa_nil))))))
      (pss_one (ps_ret (pe_ix (k_ix (K := Γ.K) rfl) (pv 1) (pe_dMP D_law_take 2 [] [0, 1] (fun _ h => nomatch h) (fun _ _ _ _ _ _ _ us mv ws hk h1 h2 h3 => match us, mv, ws, h1, h2, h3 with | [_, _], [], [], _, _, _ => rfl) (hr.mono (by decide)) tk (by rfl) (pa_cons (pv 0) (pa_cons pe_int pa_nil))) (fun _ _ => rfl)))))), (sv_seq (sv_asg (ev_lst (av_cons ev_str (av_cons ev_str (av_cons ev_str (av_cons ev_str (av_cons ev_str (av_cons ev_str (av_cons ev_str (av_cons ev_str av_nil))))))))) gv_name)
      (sv_seq (sv_asg (ev_op ro_add (ev_v 1) (ev_lst (av_cons ev_str (av_cons ev_str (av_cons ev_str av_nil))))) gv_name)
      (sv_ret (ev_op ro_ix (ev_v 1) (ev_call (fun _ _ => RpL.nil) (av_cons (ev_v 0) (av_cons ev_int av_nil)) av_nil)))))⟩
theorem ok_Store_take {f : Addr} {fd : FuncData} (F : FunD Γ.K "take" "Store.take" (defArgs s_Store_take) (defBody s_Store_take) (defScope s_Store_take) [] [("at", .int 0)] f fd) (T : Glb Γ mg) (D_look_at_name : DefM P w Γ.K mg base "look_at_name" s_look_at_name 3 ["thing"] [] (FM Γ m_look_at_name)) (D_NotFound___init__ : DefX P w Γ.K mg base (Γ.c 6) "NotFound.__init__" s_NotFound___init__ 4 ["self", "name", "trail"] [("trail", .ref (Γ.c 38))] ["trail", "name"] bsL) : FnOk P w Γ.K mg base (L2.CX P w) 6 f fd ["self", "name", "at"] (FM Γ m_Store_take) := by
  refine okN F sc_Store_take (fun cdv A outer s H E hr => ?_)
  have hu := hr.units
  have nd := sc_Store_take.nd
  have tk : Takes (cxOf (L2.CX P w) P w Γ.K mg base ["self", "name", "at", "text", "rest"] "Store.take" (defScope s_Store_take) f cdv A outer s H E) (fun cls d _ H => E cls d H) := takes_of rfl rfl rfl rfl
  exact ⟨_, (pss_cons (ps_expr (pe_dMP D_look_at_name 1 [] [0] (fun _ h => nomatch h) (fun _ _ _ _ _ _ _ us mv ws hk h1 h2 h3 => match us, mv, ws, h1, h2, h3 with | [_], [], [], _, _, _ => rfl) (hr.mono (by decide)) tk (by rfl) (pa_cons (pv 1) pa_nil)))
      (pss_cons (ps_if (pt_cmp (pc_dnotin (hu_of hr) (pv 1) (k_fldU (K := Γ.K) rfl (pv 0))) (by rfl)) (pss_one (ps_raise rfl tk (pmk_dX D_NotFound___init__ 2 (List.cons_ne_nil _ _) rfl (fun _ _ _ _ _ _ us ks h1 h2 => match us, ks, h1, h2 with | [_, _], [_], _, _ => ⟨_, _, _, _, _, _, rfl, rfl, rfl⟩) (hr.mono (by decide)) tk (by rfl) T.g_NotFound (pa_cons (pv 1) pa_nil)))) pss_nil)
      (pss_cons (ps_asg (pe_dpop1 (k_fldU (K := Γ.K) rfl (pv 0)) (pv 1) ⟨by rfl, by rfl, by rfl, by rfl⟩) (k_star (K := Γ.K) rfl rfl (pg_name (i := 3) nd rfl (Or.inl rfl)) (pg_name (i := 4) nd rfl (Or.inl rfl))))
      (pss_cons (k_fldS (K := Γ.K) rfl (pv 0) (pv 2))
      (pss_one (ps_ret (pv 3))))))), (sv_seq (sv_drop (ev_call (fun _ _ => RpL.nil) (av_cons (ev_v 1) av_nil) av_nil))
      (sv_seq (sv_if (tv_B (ev_dnin (ev_v 1) (ev_fldU T.nx T.ni (ev_v 0)))) (sv_raiseX (fun _ hg => (.cons (Rp.ktp (hg ▸ T.q_NotFound) .nil) RpL.nil)) (av_cons (ev_v 1) av_nil)) sv_next)
      (sv_seq (sv_asg (ev_dpop1 (ev_fldU T.nx T.ni (ev_v 0)) (ev_v 1)) (gv_star gv_name gv_name))
      (sv_seq (sv_fld T.ni (ev_v 2) (ev_v 0))
      (sv_ret (ev_v 3))))))⟩
theorem ok_law_deed {f : Addr} {fd : FuncData} (F : FunD Γ.K "_law_deed" "_law_deed" (defArgs s_law_deed) (defBody s_law_deed) (defScope s_law_deed) [] [] f fd) (T : Glb Γ mg) (D_law_take : DefM P w Γ.K mg base "_law_take" s_law_take 1 ["_law_pile", "_law_size"] [] (FM Γ m_law_take)) (D_Store_put : DefN P w Γ.K mg base (Γ.c 14) "put" "Store.put" s_Store_put 6 ["self", "name", "text", "pack", "at"] [("pack", .bl false), ("at", .int 0)] (FM Γ m_Store_put)) (D_law_text_drawn : DefM P w Γ.K mg base "_law_text_drawn" s_law_text_drawn 2 ["_law_pile"] [] (FM Γ m_law_text_drawn)) (D_Store_entry : DefN P w Γ.K mg base (Γ.c 14) "entry" "Store.entry" s_Store_entry 4 ["self", "name"] [] (FM Γ m_Store_entry)) (D_Store_take : DefN P w Γ.K mg base (Γ.c 14) "take" "Store.take" s_Store_take 6 ["self", "name", "at"] [("at", .int 0)] (FM Γ m_Store_take)) : FnOk P w Γ.K mg base (L2.CX P w) 7 f fd ["_law_pile", "_law_store", "_law_stamp"] (FM Γ m_law_deed) := by
  refine okN F sc_law_deed (fun cdv A outer s H E hr => ?_)
  have hu := hr.units
  have nd := sc_law_deed.nd
  have tk : Takes (cxOf (L2.CX P w) P w Γ.K mg base ["_law_pile", "_law_store", "_law_stamp", "_law_name"] "_law_deed" (defScope s_law_deed) f cdv A outer s H E) (fun cls d _ H => E cls d H) := takes_of rfl rfl rfl rfl
  exact ⟨_, (pss_cons (ps_set (i := 3) nd rfl (Or.inl rfl) (pe_ix (k_ix (K := Γ.K) rfl) (pe_lst (pa_cons pe_str (pa_cons pe_str (pa_cons pe_str pa_nil)))) (pe_dMP D_law_take 2 [] [0, 1] (fun _ h => nomatch h) (fun _ _ _ _ _ _ _ us mv ws hk h1 h2 h3 => match us, mv, ws, h1, h2, h3 with | [_, _], [], [], _, _, _ => rfl) (hr.mono (by decide)) tk (by rfl) (pa_cons (pv 0) (pa_cons pe_int pa_nil))) (fun _ _ => rfl)))
      (pss_cons (ps_if (pt_cmpR op_gt (pe_dMP D_law_take 2 [] [0, 1] (fun _ h => nomatch h) (fun _ _ _ _ _ _ _ us mv ws hk h1 h2 h3 => match us, mv, ws, h1, h2, h3 with | [_, _], [], [], _, _, _ => rfl) (hr.mono (by decide)) tk (by rfl) (pa_cons (pv 0) (pa_cons pe_int pa_nil))) pe_int (nomark _)) (pss_one (ps_expr (pe_mtM (K := Γ.K) rfl (pv 1) (tbl1_of (methB_of D_Store_put 2 ["at"] [("pack", .bl false)] [0, 1, 2, 3, 4] (by simp) (fun _ _ _ _ _ _ _ us mv ws hk h1 h2 h3 => match us, mv, ws, h1, h2, h3 with | [_, _, _], [_], [_], _, _, _ => by cases hk (by decide); exact ⟨_, _, _, _, _, _, rfl, rfl, rfl⟩))) (hr.mono (by decide)) (fun σ => passAt tk σ) (pa_cons (pv 3) (pa_cons (pe_dMP D_law_text_drawn 1 [] [0] (fun _ h => nomatch h) (fun _ _ _ _ _ _ _ us mv ws hk h1 h2 h3 => match us, mv, ws, h1, h2, h3 with | [_], [], [], _, _, _ => rfl) (hr.mono (by decide)) tk (by rfl) (pa_cons (pv 0) pa_nil)) pa_nil)) (pk_cons (pv 2) pk_nil)))) (pss_one (ps_if (pt_cmpR op_notN (pe_mtMP (K := Γ.K) rfl (pv 1) (tbl1_of (methB_of D_Store_entry 1 [] [] [0, 1] (fun _ h => nomatch h) (fun _ _ _ _ _ _ _ us mv ws hk h1 h2 h3 => match us, mv, ws, h1, h2, h3 with | [_, _], [], [], _, _, _ => rfl))) (hr.mono (by decide)) (fun σ => passAt tk σ) (pa_cons (pv 3) pa_nil)) pe_non (nomark _)) (pss_one (ps_expr (pe_mtM (K := Γ.K) rfl (pv 1) (tbl1_of (methB_of D_Store_take 1 ["at"] [] [0, 1, 2] (fun _ h => nomatch h) (fun _ _ _ _ _ _ _ us mv ws hk h1 h2 h3 => match us, mv, ws, h1, h2, h3 with | [_, _], [], [_], _, _, _ => rfl))) (hr.mono (by decide)) (fun σ => passAt tk σ) (pa_cons (pv 3) pa_nil) (pk_cons (pv 2) pk_nil)))) pss_nil)))
      (pss_one (ps_ret (pv 3))))), (sv_seq (sv_asg (ev_op ro_ix (ev_lst (av_cons ev_str (av_cons ev_str (av_cons ev_str av_nil)))) (ev_call (fun _ _ => RpL.nil) (av_cons (ev_v 0) (av_cons ev_int av_nil)) av_nil)) gv_name)
      (sv_seq (sv_if (tv_test (ev_op ro_gt (ev_call (fun _ _ => RpL.nil) (av_cons (ev_v 0) (av_cons ev_int av_nil)) av_nil) ev_int)) (sv_drop (ev_meth (fun _ _ => (.cons (Rp.bl _) RpL.nil)) (ev_v 1) (av_cons (ev_v 3) (av_cons (ev_call (fun _ _ => RpL.nil) (av_cons (ev_v 0) av_nil) av_nil) av_nil)) (av_cons (ev_v 2) av_nil))) (sv_if (tv_test (ev_op ro_notN (ev_meth (fun _ _ => RpL.nil) (ev_v 1) (av_cons (ev_v 3) av_nil) av_nil) ev_non)) (sv_drop (ev_meth (fun _ _ => RpL.nil) (ev_v 1) (av_cons (ev_v 3) av_nil) (av_cons (ev_v 2) av_nil))) sv_next))
      (sv_ret (ev_v 3))))⟩
theorem ok_law_read {f : Addr} {fd : FuncData} (F : FunD Γ.K "_law_read" "_law_read" (defArgs s_law_read) (defBody s_law_read) (defScope s_law_read) [] [] f fd) (T : Glb Γ mg) (D_read_body : DefM P w Γ.K mg base "read_body" s_read_body 7 ["text"] [] (FM Γ m_read_body)) : FnOk P w Γ.K mg base (L2.CX P w) 8 f fd ["_law_text"] (FM Γ m_law_read) := by
  refine okN F sc_law_read (fun cdv A outer s H E hr => ?_)
  have hu := hr.units
  have nd := sc_law_read.nd
  have tk : Takes (cxOf (L2.CX P w) P w Γ.K mg base ["_law_text", "_law_found", "e"] "_law_read" (defScope s_law_read) f cdv A outer s H E) (fun cls d _ H => E cls d H) := takes_of rfl rfl rfl rfl
  exact ⟨_, (pss_cons (ps_set (i := 1) nd rfl (Or.inl rfl) pe_non)
      (pss_cons (ps_try_keep (i := 2) rfl rfl rfl nd rfl rfl ⟨rfl, by decide, .inl T.g_NoBody⟩ tk (fun W1 pn1 xe1 tk1 po1 => (pss_one (ps_set (i := 1) nd rfl (Or.inl rfl) (pe_dMP D_read_body 1 [] [0] (fun _ h => nomatch h) (fun _ _ _ _ _ _ _ us mv ws hk h1 h2 h3 => match us, mv, ws, h1, h2, h3 with | [_], [], [], _, _, _ => rfl) (hr.mono (by decide)) tk1 (by rfl) (pa_cons (pv 0) pa_nil))))) (fun a1 => (pss_one (ps_set (i := 1) nd rfl (Or.inl rfl) (k_fldU (K := Γ.K) rfl (pv 2))))))
      (pss_one (ps_ret (pv 1))))), (sv_seq (sv_asg ev_non gv_name)
      (sv_seq (sv_try (cqSelf_ok T.e_NoBody) (fun _ => (sv_asg (ev_call (fun _ _ => RpL.nil) (av_cons (ev_v 0) av_nil) av_nil) gv_name)) (sv_asg (ev_fldU T.nx T.ni (ev_v 2)) gv_name))
      (sv_ret (ev_v 1))))⟩
theorem ok_Store_names {f : Addr} {fd : FuncData} (F : FunD Γ.K "names" "Store.names" (defArgs s_Store_names) (defBody s_Store_names) (defScope s_Store_names) [] [] f fd) (T : Glb Γ mg)  : FnOk P w Γ.K mg base (L2.CX P w) 1 f fd ["self"] (FM Γ m_Store_names) := by
  refine okN F sc_Store_names (fun cdv A outer s H E hr => ?_)
  have hu := hr.units
  have nd := sc_Store_names.nd
  have tk : Takes (cxOf (L2.CX P w) P w Γ.K mg base ["self"] "Store.names" (defScope s_Store_names) f cdv A outer s H E) (fun cls d _ H => E cls d H) := takes_of rfl rfl rfl rfl
  exact ⟨_, (pss_one (ps_ret (pe_callB (k_sortU (K := Γ.K) rfl rfl) (by rfl) T.z_sorted (by decide +kernel) (pa_cons (k_fldU (K := Γ.K) rfl (pv 0)) pa_nil)))), (sv_ret (ev_cb rc_sort (av_cons (ev_fldU T.nx T.ni (ev_v 0)) av_nil)))⟩
theorem ok_Lists_listed {f : Addr} {fd : FuncData} (F : FunD Γ.K "listed" "Lists.listed" (defArgs s_Lists_listed) (defBody s_Lists_listed) (defScope s_Lists_listed) [] [] f fd) (T : Glb Γ mg) (D_Store_names : DefN P w Γ.K mg base (Γ.c 14) "names" "Store.names" s_Store_names 1 ["self"] [] (FM Γ m_Store_names)) : FnOk P w Γ.K mg base (L2.CX P w) 2 f fd ["self", "store"] (FM Γ m_Lists_listed) := by
  refine okN F sc_Lists_listed (fun cdv A outer s H E hr => ?_)
  have hu := hr.units
  have nd := sc_Lists_listed.nd
  have tk : Takes (cxOf (L2.CX P w) P w Γ.K mg base ["self", "store", "found"] "Lists.listed" (defScope s_Lists_listed) f cdv A outer s H E) (fun cls d _ H => E cls d H) := takes_of rfl rfl rfl rfl
  exact ⟨_, (pss_cons (ps_set (i := 2) nd rfl (Or.inl rfl) (pe_dget2 (hu_of hr) (k_fldU (K := Γ.K) rfl (pv 0)) (k_fldU (K := Γ.K) rfl (pv 1)) pe_non ⟨by rfl, by rfl, by rfl, by rfl⟩))
      (pss_cons (ps_if (PW.pt (pw_or (pt_cmpR op_isN (pv 2) pe_non (nomark _)) (pw_or1 (pt_cmpR (k_ne (K := Γ.K) rfl hu) (pe_ix (k_ix (K := Γ.K) rfl) (pv 2) pe_int (fun _ _ => rfl)) (k_fldU (K := Γ.K) rfl (pv 1)) (nomark _))))) (pss_cons (ps_set (i := 2) nd rfl (Or.inl rfl) (pe_tup (pa_cons (k_fldU (K := Γ.K) rfl (pv 1)) (pa_cons (pe_callTy (k_tupOf (K := Γ.K) rfl) (by rfl) T.z_tuple (by decide +kernel) (pa_cons (pe_mtMP0 (K := Γ.K) rfl (pv 1) (tbl1_of (methB_of D_Store_names 0 [] [] [0] (fun _ h => nomatch h) (fun _ _ _ _ _ _ _ us mv ws hk h1 h2 h3 => match us, mv, ws, h1, h2, h3 with | [_], [], [], _, _, _ => rfl))) (hr.mono (by decide)) (fun σ => passAt tk σ)) pa_nil)) pa_nil))))
      (pss_one (ps_dput (hu_of hr) (k_fldU (K := Γ.K) rfl (pv 0)) (k_fldU (K := Γ.K) rfl (pv 1)) (pv 2) (by rfl)))) pss_nil)
      (pss_one (ps_ret (pe_callTy (k_lstOf (K := Γ.K) rfl) (by rfl) T.z_list (by decide +kernel) (pa_cons (pe_ix (k_ix (K := Γ.K) rfl) (pv 2) pe_int (fun _ _ => rfl)) pa_nil)))))), (sv_seq (sv_asg (ev_dget2 (ev_fldU T.nx T.ni (ev_v 0)) (ev_fldU T.nx T.ni (ev_v 1)) ev_non) gv_name)
      (sv_seq (sv_if (tv_or (tv_test (ev_op ro_isN (ev_v 2) ev_non)) (tv_test (ev_op ro_ne (ev_op ro_ix (ev_v 2) ev_int) (ev_fldU T.nx T.ni (ev_v 1))))) (sv_seq (sv_asg (ev_tup (av_cons (ev_fldU T.nx T.ni (ev_v 1)) (av_cons (ev_cb rc_tup (av_cons (ev_meth (fun _ _ => RpL.nil) (ev_v 1) av_nil av_nil) av_nil)) av_nil))) gv_name)
      (sv_dput (ev_v 2) (ev_fldU T.nx T.ni (ev_v 0)) (ev_fldU T.nx T.ni (ev_v 1)))) sv_next)
      (sv_ret (ev_cb rc_lst (av_cons (ev_op ro_ix (ev_v 2) ev_int) av_nil)))))⟩
theorem ok_law_formed {f : Addr} {fd : FuncData} (F : FunD Γ.K "_law_formed" "_law_formed" (defArgs s_law_formed) (defBody s_law_formed) (defScope s_law_formed) [] [] f fd) (T : Glb Γ mg) (D_Forms_form : DefN P w Γ.K mg base (Γ.c 16) "form" "Forms.form" s_Forms_form 8 ["self", "store", "name"] [] (FM Γ m_Forms_form)) : FnOk P w Γ.K mg base (L2.CX P w) 9 f fd ["_law_forms", "_law_store", "_law_name"] (FM Γ m_law_formed) := by
  refine okN F sc_law_formed (fun cdv A outer s H E hr => ?_)
  have hu := hr.units
  have nd := sc_law_formed.nd
  have tk : Takes (cxOf (L2.CX P w) P w Γ.K mg base ["_law_forms", "_law_store", "_law_name", "_law_found", "e"] "_law_formed" (defScope s_law_formed) f cdv A outer s H E) (fun cls d _ H => E cls d H) := takes_of rfl rfl rfl rfl
  exact ⟨_, (pss_cons (ps_set (i := 3) nd rfl (Or.inl rfl) pe_non)
      (pss_cons (ps_try_keepO (i := 4) (ts2 := fun _ _ _ => _) rfl rfl rfl nd rfl rfl ⟨rfl, by decide, .inl T.g_NoBody⟩ ⟨rfl, by decide, .inl T.g_NotFound⟩ tk (fun W1 pn1 xe1 tk1 po1 => (pss_one (ps_set (i := 3) nd rfl (Or.inl rfl) (pe_mtMP (K := Γ.K) rfl (pv 0) (tbl1_of (methB_of D_Forms_form 2 [] [] [0, 1, 2] (fun _ h => nomatch h) (fun _ _ _ _ _ _ _ us mv ws hk h1 h2 h3 => match us, mv, ws, h1, h2, h3 with | [_, _, _], [], [], _, _, _ => rfl))) (hr.mono (by decide)) (fun σ => passAt tk1 σ) (pa_cons (pv 1) (pa_cons (pv 2) pa_nil)))))) (fun a1 => (pss_one (ps_set (i := 3) nd rfl (Or.inl rfl) (k_fldU (K := Γ.K) rfl (pv 4))))) (fun _ _ _ _ _ _ _ => (pss_one (ps_set (i := 3) nd rfl (Or.inl rfl) pe_str))))
      (pss_one (ps_ret (pv 3))))), (sv_seq (sv_asg ev_non gv_name)
      (sv_seq (sv_try2 (cqTwo_ok T.e_NoBody T.p_NotFound_NoBody) (cqTwo_ok T.e_NotFound T.p_NoBody_NotFound) (fun _ => (sv_asg (ev_meth (fun _ _ => RpL.nil) (ev_v 0) (av_cons (ev_v 1) (av_cons (ev_v 2) av_nil)) av_nil) gv_name)) (sv_asg (ev_fldU T.nx T.ni (ev_v 4)) gv_name) (fun _ _ _ => (sv_asg ev_str gv_name)))
      (sv_ret (ev_v 3))))⟩
theorem ok_law_history_good {f : Addr} {fd : FuncData} (F : FunD Γ.K "_law_history_good" "_law_history_good" (defArgs s_law_history_good) (defBody s_law_history_good) (defScope s_law_history_good) [] [] f fd) (T : Glb Γ mg) (D_Lists___init__ : DefI P w Γ.K mg base (Γ.c 15) "Lists.__init__" s_Lists___init__ 1 ["self"] [] (FM Γ m_Lists___init__)) (D_Lists_forget : DefN P w Γ.K mg base (Γ.c 15) "forget" "Lists.forget" s_Lists_forget 1 ["self"] [] (FM Γ m_Lists_forget)) (D_Store___init__ : DefI P w Γ.K mg base (Γ.c 14) "Store.__init__" s_Store___init__ 2 ["self", "name"] [] (FM Γ m_Store___init__)) (D_Forms___init__ : DefI P w Γ.K mg base (Γ.c 16) "Forms.__init__" s_Forms___init__ 2 ["self", "check"] [("check", .str "stamp")] (FM Γ m_Forms___init__)) (D_law_deed : DefM P w Γ.K mg base "_law_deed" s_law_deed 7 ["_law_pile", "_law_store", "_law_stamp"] [] (FM Γ m_law_deed)) (D_Store_entry : DefN P w Γ.K mg base (Γ.c 14) "entry" "Store.entry" s_Store_entry 4 ["self", "name"] [] (FM Γ m_Store_entry)) (D_law_read : DefM P w Γ.K mg base "_law_read" s_law_read 8 ["_law_text"] [] (FM Γ m_law_read)) (D_Forms_stale : DefN P w Γ.K mg base (Γ.c 16) "stale" "Forms.stale" s_Forms_stale 6 ["self", "store"] [] (FM Γ m_Forms_stale)) (D_Lists_listed : DefN P w Γ.K mg base (Γ.c 15) "listed" "Lists.listed" s_Lists_listed 2 ["self", "store"] [] (FM Γ m_Lists_listed)) (D_Store_names : DefN P w Γ.K mg base (Γ.c 14) "names" "Store.names" s_Store_names 1 ["self"] [] (FM Γ m_Store_names)) (D_law_cell : DefM P w Γ.K mg base "_law_cell" s_law_cell 2 ["_law_script", "_law_k"] [] (FM Γ m_law_cell)) (D_law_formed : DefM P w Γ.K mg base "_law_formed" s_law_formed 9 ["_law_forms", "_law_store", "_law_name"] [] (FM Γ m_law_formed)) : FnOk P w Γ.K mg base (L2.CX P w) 10 f fd ["_law_script", "_law_start", "_law_many", "_law_own"] (FM Γ m_law_history_good) := by
  refine okN F sc_law_history_good (fun cdv A outer s H E hr => ?_)
  have hu := hr.units
  have nd := sc_law_history_good.nd
  have tk : Takes (cxOf (L2.CX P w) P w Γ.K mg base ["_law_script", "_law_start", "_law_many", "_law_own", "_law_stores", "_law_forms", "_law_lists", "_law_asked", "_law_k", "_law_stamp", "_law_name", "_law_lies", "_law_due", "_law_found", "_law_one"] "_law_history_good" (defScope s_law_history_good) f cdv A outer s H E) (fun cls d _ H => E cls d H) := takes_of rfl rfl rfl rfl
  exact ⟨_, (pss_cons (ps_set (i := 4) nd rfl (Or.inr rfl) (pe_lst (pa_cons (pe_mIP D_Store___init__ 1 [] [0, 1] (fun _ h => nomatch h) (fun _ _ _ _ _ _ _ us mv ws hk h1 h2 h3 => match us, mv, ws, h1, h2, h3 with | [_, _], [], [], _, _, _ => rfl) (hr.mono (by decide)) tk (by rfl) T.g_Store (pa_cons pe_str pa_nil)) (pa_cons (pe_mIP D_Store___init__ 1 [] [0, 1] (fun _ h => nomatch h) (fun _ _ _ _ _ _ _ us mv ws hk h1 h2 h3 => match us, mv, ws, h1, h2, h3 with | [_, _], [], [], _, _, _ => rfl) (hr.mono (by decide)) tk (by rfl) T.g_Store (pa_cons pe_str pa_nil)) pa_nil))))
      (pss_cons (ps_set (i := 5) nd rfl (Or.inl rfl) (pe_lst (pa_cons (pe_mI0 D_Forms___init__ ["check"] [] [0, 1] (fun _ h => nomatch h) (fun _ _ _ _ _ _ _ us mv ws hk h1 h2 h3 => match us, mv, ws, h1, h2, h3 with | [_], [], [_], _, _, _ => rfl) (hr.mono (by decide)) tk (by rfl) T.g_Forms (pk_cons pe_str pk_nil)) (pa_cons (pe_mI0 D_Forms___init__ ["check"] [] [0, 1] (fun _ h => nomatch h) (fun _ _ _ _ _ _ _ us mv ws hk h1 h2 h3 => match us, mv, ws, h1, h2, h3 with | [_], [], [_], _, _, _ => rfl) (hr.mono (by decide)) tk (by rfl) T.g_Forms (pk_cons pe_str pk_nil)) (pa_cons (pe_mI0 D_Forms___init__ ["check"] [] [0, 1] (fun _ h => nomatch h) (fun _ _ _ _ _ _ _ us mv ws hk h1 h2 h3 => match us, mv, ws, h1, h2, h3 with | [_], [], [_], _, _, _ => rfl) (hr.mono (by decide)) tk (by rfl) T.g_Forms (pk_cons pe_str pk_nil)) pa_nil)))))
      (pss_cons (ps_set (i := 6) nd rfl (Or.inl rfl) (pe_mIP0 D_Lists___init__ [] [0] (fun _ h => nomatch h) (fun _ _ _ _ _ _ _ us mv ws hk h1 h2 h3 => match us, mv, ws, h1, h2, h3 with | [_], [], [], _, _, _ => rfl) (hr.mono (by decide)) tk (by rfl) T.g_Lists))
      (pss_cons (ps_set (i := 7) nd rfl (Or.inl rfl) pe_int)
      (pss_cons (ps_for (passes_of rfl) rfl (pi_range1 (by rfl) T.z_range (pa_cons (pv 2) pa_nil)) (pg_name (i := 8) nd rfl (Or.inl rfl)) (pss_cons (ps_set (i := 9) nd rfl (Or.inl rfl) (pe_ix (k_ix (K := Γ.K) rfl) (pe_lst (pa_cons (pe_op op_modN (pe_op op_fdivN (pv 8) pe_int) pe_int) (pa_cons (pe_op uop_add (pv 8) pe_int) pa_nil))) (pe_callTy ucall_int (by rfl) T.z_int (by decide +kernel) (pa_cons (pv 3) pa_nil)) (fun _ _ => rfl)))
      (pss_cons (ps_set (i := 10) nd rfl (Or.inr rfl) (pe_dMP D_law_deed 3 [] [0, 1, 2] (fun _ h => nomatch h) (fun _ _ _ _ _ _ _ us mv ws hk h1 h2 h3 => match us, mv, ws, h1, h2, h3 with | [_, _, _], [], [], _, _, _ => rfl) (hr.mono (by decide)) tk (by rfl) (pa_cons (pe_lst (pa_cons (pe_dMP D_law_cell 2 [] [0, 1] (fun _ h => nomatch h) (fun _ _ _ _ _ _ _ us mv ws hk h1 h2 h3 => match us, mv, ws, h1, h2, h3 with | [_, _], [], [], _, _, _ => rfl) (hr.mono (by decide)) tk (by rfl) (pa_cons (pv 0) (pa_cons (pe_op uop_add (pv 1) (pv 8)) pa_nil))) pa_nil)) (pa_cons (pe_ix (k_ix (K := Γ.K) rfl) (pv 4) pe_int (fun _ _ => rfl)) (pa_cons (pv 9) pa_nil)))))
      (pss_cons (ps_expr (pe_dMP D_law_deed 3 [] [0, 1, 2] (fun _ h => nomatch h) (fun _ _ _ _ _ _ _ us mv ws hk h1 h2 h3 => match us, mv, ws, h1, h2, h3 with | [_, _, _], [], [], _, _, _ => rfl) (hr.mono (by decide)) tk (by rfl) (pa_cons (pe_lst (pa_cons (pe_dMP D_law_cell 2 [] [0, 1] (fun _ h => nomatch h) (fun _ _ _ _ _ _ _ us mv ws hk h1 h2 h3 => match us, mv, ws, h1, h2, h3 with | [_, _], [], [], _, _, _ => rfl) (hr.mono (by decide)) tk (by rfl) (pa_cons (pv 0) (pa_cons (pe_op uop_add (pv 1) (pv 8)) pa_nil))) pa_nil)) (pa_cons (pe_ix (k_ix (K := Γ.K) rfl) (pv 4) pe_int (fun _ _ => rfl)) (pa_cons (pv 9) pa_nil)))))
      (pss_cons (ps_set (i := 11) nd rfl (Or.inl rfl) (pe_mtMP (K := Γ.K) rfl (pe_ix (k_ix (K := Γ.K) rfl) (pv 4) pe_int (fun _ _ => rfl)) (tbl1_of (methB_of D_Store_entry 1 [] [] [0, 1] (fun _ h => nomatch h) (fun _ _ _ _ _ _ _ us mv ws hk h1 h2 h3 => match us, mv, ws, h1, h2, h3 with | [_, _], [], [], _, _, _ => rfl))) (hr.mono (by decide)) (fun σ => passAt tk σ) (pa_cons (pv 10) pa_nil)))
      (pss_cons (ps_set (i := 12) nd rfl (Or.inl rfl) pe_str)
      (pss_cons (ps_if (pt_cmpR op_notN (pv 11) pe_non (nomark _)) (pss_one (ps_set (i := 12) nd rfl (Or.inl rfl) (pe_dMP D_law_read 1 [] [0] (fun _ h => nomatch h) (fun _ _ _ _ _ _ _ us mv ws hk h1 h2 h3 => match us, mv, ws, h1, h2, h3 with | [_], [], [], _, _, _ => rfl) (hr.mono (by decide)) tk (by rfl) (pa_cons (pe_ix (k_ix (K := Γ.K) rfl) (pv 11) pe_int (fun _ _ => rfl)) pa_nil)))) pss_nil)
      (pss_cons (ps_set (i := 13) nd rfl (Or.inl rfl) (pe_op uop_add (pe_lc (own := [("_law_one", 14)]) (g := gName 14) rfl nd (k_pi_list (K := Γ.K) rfl (pe_slice (k_sl (K := Γ.K) rfl) (pv 5) po_none (po_some pe_int))) (blkOk_by (N := ["_law_script", "_law_start", "_law_many", "_law_own", "_law_stores", "_law_forms", "_law_lists", "_law_asked", "_law_k", "_law_stamp", "_law_name", "_law_lies", "_law_due", "_law_found", "_law_one"]) (sc := defScope s_law_history_good) (own := [("_law_one", 14)]) (by decide +kernel)) (fun _ _ _ _ _ => (pg_name (i := 14) nd rfl (Or.inl rfl))) (fun _ _ _ _ _ => pts_nil) (fun _ _ _ _ _ => by exact (pe_dMP D_law_formed 3 [] [0, 1, 2] (fun _ h => nomatch h) (fun _ _ _ _ _ _ _ us mv ws hk h1 h2 h3 => match us, mv, ws, h1, h2, h3 with | [_, _, _], [], [], _, _, _ => rfl) (hr.mono (by decide)) takes0 (by rfl) (pa_cons (pv 14) (pa_cons (pe_ix (k_ix (K := Γ.K) rfl) (pv 4) pe_int (fun _ _ => rfl)) (pa_cons (pv 10) pa_nil)))))) (pe_lst (pa_cons (pe_dMP D_law_formed 3 [] [0, 1, 2] (fun _ h => nomatch h) (fun _ _ _ _ _ _ _ us mv ws hk h1 h2 h3 => match us, mv, ws, h1, h2, h3 with | [_, _, _], [], [], _, _, _ => rfl) (hr.mono (by decide)) tk (by rfl) (pa_cons (pe_ix (k_ix (K := Γ.K) rfl) (pv 5) pe_int (fun _ _ => rfl)) (pa_cons (pe_ix (k_ix (K := Γ.K) rfl) (pv 4) pe_int (fun _ _ => rfl)) (pa_cons (pv 10) pa_nil)))) pa_nil))))
      (pss_cons (ps_set (i := 7) nd rfl (Or.inl rfl) (pe_op uop_add (pv 7) pe_int))
      (pss_cons (ps_if (PW.pt (pw_or (pt_cmpR (k_ne (K := Γ.K) rfl hu) (pe_ix (k_ix (K := Γ.K) rfl) (pv 13) pe_int (fun _ _ => rfl)) (pv 12) (nomark _)) (pw_or (pt_cmpR (k_ne (K := Γ.K) rfl hu) (pe_ix (k_ix (K := Γ.K) rfl) (pv 13) pe_int (fun _ _ => rfl)) (pe_ix (k_ix (K := Γ.K) rfl) (pv 13) pe_int (fun _ _ => rfl)) (nomark _)) (pw_or1 (pt_cmpR (k_ne (K := Γ.K) rfl hu) (pe_mtMP (K := Γ.K) rfl (pe_ix (k_ix (K := Γ.K) rfl) (pv 5) pe_int (fun _ _ => rfl)) (tbl1_of (methB_of D_Forms_stale 1 [] [] [0, 1] (fun _ h => nomatch h) (fun _ _ _ _ _ _ _ us mv ws hk h1 h2 h3 => match us, mv, ws, h1, h2, h3 with | [_, _], [], [], _, _, _ => rfl))) (hr.mono (by decide)) (fun σ => passAt tk σ) (pa_cons (pe_ix (k_ix (K := Γ.K) rfl) (pv 4) pe_int (fun _ _ => rfl)) pa_nil)) (pe_lst pa_nil) (nomark _)))))) (pss_one (ps_ret pe_bl)) pss_nil)
      (pss_cons (ps_if (PW.pt (pw_and (pt_val (pv 3)) (pw_and1 (PW.pt (pw_or (pt_cmpR (k_ne (K := Γ.K) rfl hu) (pe_ix (k_ix (K := Γ.K) rfl) (pv 13) pe_int (fun _ _ => rfl)) (pv 12) (nomark _)) (pw_or1 (pt_cmpR (k_ne (K := Γ.K) rfl hu) (pe_mtMP (K := Γ.K) rfl (pe_ix (k_ix (K := Γ.K) rfl) (pv 5) pe_int (fun _ _ => rfl)) (tbl1_of (methB_of D_Forms_stale 1 [] [] [0, 1] (fun _ h => nomatch h) (fun _ _ _ _ _ _ _ us mv ws hk h1 h2 h3 => match us, mv, ws, h1, h2, h3 with | [_, _], [], [], _, _, _ => rfl))) (hr.mono (by decide)) (fun σ => passAt tk σ) (pa_cons (pe_ix (k_ix (K := Γ.K) rfl) (pv 4) pe_int (fun _ _ => rfl)) pa_nil)) (pe_lst pa_nil) (nomark _)))))))) (pss_one (ps_ret pe_bl)) pss_nil)
      (pss_cons (ps_if (PW.pt (pw_and (pt_val (pv 3)) (pw_and1 (pt_cmpR (k_ne (K := Γ.K) rfl hu) (pe_mtMP (K := Γ.K) rfl (pv 6) (tbl1_of (methB_of D_Lists_listed 1 [] [] [0, 1] (fun _ h => nomatch h) (fun _ _ _ _ _ _ _ us mv ws hk h1 h2 h3 => match us, mv, ws, h1, h2, h3 with | [_, _], [], [], _, _, _ => rfl))) (hr.mono (by decide)) (fun σ => passAt tk σ) (pa_cons (pe_ix (k_ix (K := Γ.K) rfl) (pv 4) pe_int (fun _ _ => rfl)) pa_nil)) (pe_mtMP0 (K := Γ.K) rfl (pe_ix (k_ix (K := Γ.K) rfl) (pv 4) pe_int (fun _ _ => rfl)) (tbl1_of (methB_of D_Store_names 0 [] [] [0] (fun _ h => nomatch h) (fun _ _ _ _ _ _ _ us mv ws hk h1 h2 h3 => match us, mv, ws, h1, h2, h3 with | [_], [], [], _, _, _ => rfl))) (hr.mono (by decide)) (fun σ => passAt tk σ)) (nomark _))))) (pss_one (ps_ret pe_bl)) pss_nil)
      (pss_cons (ps_if (PW.pt (pw_or (pt_cmpR op_gt (pe_callB (k_max rfl) (by rfl) T.z_max (by decide +kernel) (pa_cons (k_fldU (K := Γ.K) rfl (pe_ix (k_ix (K := Γ.K) rfl) (pv 5) pe_int (fun _ _ => rfl))) (pa_cons (k_fldU (K := Γ.K) rfl (pe_ix (k_ix (K := Γ.K) rfl) (pv 5) pe_int (fun _ _ => rfl))) pa_nil))) (pv 7) (nomark _)) (pw_or1 (pt_cmpR (k_ne (K := Γ.K) rfl hu) (k_fldU (K := Γ.K) rfl (pe_ix (k_ix (K := Γ.K) rfl) (pv 5) pe_int (fun _ _ => rfl))) (k_fldU (K := Γ.K) rfl (pe_ix (k_ix (K := Γ.K) rfl) (pv 5) pe_int (fun _ _ => rfl))) (nomark _))))) (pss_one (ps_ret pe_bl)) pss_nil)
      (pss_one (ps_if (pt_cmpR (k_ne (K := Γ.K) rfl hu) (pe_mtMP (K := Γ.K) rfl (pe_ix (k_ix (K := Γ.K) rfl) (pv 5) pe_int (fun _ _ => rfl)) (tbl1_of (methB_of D_Forms_stale 1 [] [] [0, 1] (fun _ h => nomatch h) (fun _ _ _ _ _ _ _ us mv ws hk h1 h2 h3 => match us, mv, ws, h1, h2, h3 with | [_, _], [], [], _, _, _ => rfl))) (hr.mono (by decide)) (fun σ => passAt tk σ) (pa_cons (pe_ix (k_ix (K := Γ.K) rfl) (pv 4) pe_int (fun _ _ => rfl)) pa_nil)) (pe_mtMP (K := Γ.K) rfl (pe_ix (k_ix (K := Γ.K) rfl) (pv 5) pe_int (fun _ _ => rfl)) (tbl1_of (methB_of D_Forms_stale 1 [] [] [0, 1] (fun _ h => nomatch h) (fun _ _ _ _ _ _ _ us mv ws hk h1 h2 h3 => match us, mv, ws, h1, h2, h3 with | [_, _], [], [], _, _, _ => rfl))) (hr.mono (by decide)) (fun σ => passAt tk σ) (pa_cons (pe_ix (k_ix (K := Γ.K) rfl) (pv 4) pe_int (fun _ _ => rfl)) pa_nil)) (nomark _)) (pss_one (ps_ret pe_bl)) pss_nil)))))))))))))))
      (pss_cons (ps_expr (pe_mtMP0 (K := Γ.K) rfl (pv 6) (tbl1_of (methB_of D_Lists_forget 0 [] [] [0] (fun _ h => nomatch h) (fun _ _ _ _ _ _ _ us mv ws hk h1 h2 h3 => match us, mv, ws, h1, h2, h3 with | [_], [], [], _, _, _ => rfl))) (hr.mono (by decide)) (fun σ => passAt tk σ)))
      (pss_one (ps_ret (pe_and (pe_cmpR (k_eq (K := Γ.K) rfl hu) (pe_mtMP (K := Γ.K) rfl (pv 6) (tbl1_of (methB_of D_Lists_listed 1 [] [] [0, 1] (fun _ h => nomatch h) (fun _ _ _ _ _ _ _ us mv ws hk h1 h2 h3 => match us, mv, ws, h1, h2, h3 with | [_, _], [], [], _, _, _ => rfl))) (hr.mono (by decide)) (fun σ => passAt tk σ) (pa_cons (pe_ix (k_ix (K := Γ.K) rfl) (pv 4) pe_int (fun _ _ => rfl)) pa_nil)) (pe_mtMP0 (K := Γ.K) rfl (pe_ix (k_ix (K := Γ.K) rfl) (pv 4) pe_int (fun _ _ => rfl)) (tbl1_of (methB_of D_Store_names 0 [] [] [0] (fun _ h => nomatch h) (fun _ _ _ _ _ _ _ us mv ws hk h1 h2 h3 => match us, mv, ws, h1, h2, h3 with | [_], [], [], _, _, _ => rfl))) (hr.mono (by decide)) (fun σ => passAt tk σ)) (nomark _)) (pe_one (pe_cmpR (k_eq (K := Γ.K) rfl hu) (pe_mtMP (K := Γ.K) rfl (pe_mIP0 D_Lists___init__ [] [0] (fun _ h => nomatch h) (fun _ _ _ _ _ _ _ us mv ws hk h1 h2 h3 => match us, mv, ws, h1, h2, h3 with | [_], [], [], _, _, _ => rfl) (hr.mono (by decide)) tk (by rfl) T.g_Lists) (tbl1_of (methB_of D_Lists_listed 1 [] [] [0, 1] (fun _ h => nomatch h) (fun _ _ _ _ _ _ _ us mv ws hk h1 h2 h3 => match us, mv, ws, h1, h2, h3 with | [_, _], [], [], _, _, _ => rfl))) (hr.mono (by decide)) (fun σ => passAt tk σ) (pa_cons (pe_ix (k_ix (K := Γ.K) rfl) (pv 4) pe_int (fun _ _ => rfl)) pa_nil)) (pe_mtMP0 (K := Γ.K) rfl (pe_ix (k_ix (K := Γ.K) rfl) (pv 4) pe_int (fun _ _ => rfl)) (tbl1_of (methB_of D_Store_names 0 [] [] [0] (fun _ h => nomatch h) (fun _ _ _ _ _ _ _ us mv ws hk h1 h2 h3 => match us, mv, ws, h1, h2, h3 with | [_], [], [], _, _, _ => rfl))) (hr.mono (by decide)) (fun σ => passAt tk σ)) (nomark _)))))))))))), (sv_seq (sv_asg (ev_lst (av_cons (ev_make (fun _ _ => RpL.nil) (av_cons ev_str av_nil) av_nil) (av_cons (ev_make (fun _ _ => RpL.nil) (av_cons ev_str av_nil) av_nil) av_nil))) gv_name)
      (sv_seq (sv_asg (ev_lst (av_cons (ev_make (fun _ _ => RpL.nil) av_nil (av_cons ev_str av_nil)) (av_cons (ev_make (fun _ _ => RpL.nil) av_nil (av_cons ev_str av_nil)) (av_cons (ev_make (fun _ _ => RpL.nil) av_nil (av_cons ev_str av_nil)) av_nil)))) gv_name)
      (sv_seq (sv_asg (ev_make (fun _ _ => RpL.nil) av_nil av_nil) gv_name)
      (sv_seq (sv_asg ev_int gv_name)
      (sv_seq (sv_for (iv_rng1 (av_cons (ev_v 2) av_nil)) gv_name (sv_seq (sv_asg (ev_op ro_ix (ev_lst (av_cons (ev_op ro_mod (ev_op ro_fdiv (ev_v 8) ev_int) ev_int) (av_cons (ev_op ro_add (ev_v 8) ev_int) av_nil))) (ev_cb rc_int (av_cons (ev_v 3) av_nil))) gv_name)
      (sv_seq (sv_asg (ev_call (fun _ _ => RpL.nil) (av_cons (ev_new (av_cons (ev_call (fun _ _ => RpL.nil) (av_cons (ev_v 0) (av_cons (ev_op ro_add (ev_v 1) (ev_v 8)) av_nil)) av_nil) av_nil)) (av_cons (ev_op ro_ix (ev_v 4) ev_int) (av_cons (ev_v 9) av_nil))) av_nil) gv_name)
      (sv_seq (sv_drop (ev_call (fun _ _ => RpL.nil) (av_cons (ev_new (av_cons (ev_call (fun _ _ => RpL.nil) (av_cons (ev_v 0) (av_cons (ev_op ro_add (ev_v 1) (ev_v 8)) av_nil)) av_nil) av_nil)) (av_cons (ev_op ro_ix (ev_v 4) ev_int) (av_cons (ev_v 9) av_nil))) av_nil))
      (sv_seq (sv_asg (ev_meth (fun _ _ => RpL.nil) (ev_op ro_ix (ev_v 4) ev_int) (av_cons (ev_v 10) av_nil) av_nil) gv_name)
      (sv_seq (sv_asg ev_str gv_name)
      (sv_seq (sv_if (tv_test (ev_op ro_notN (ev_v 11) ev_non)) (sv_asg (ev_call (fun _ _ => RpL.nil) (av_cons (ev_op ro_ix (ev_v 11) ev_int) av_nil) av_nil) gv_name) sv_next)
      (sv_seq (sv_asg (ev_op ro_add (ev_lc (iv_list (ev_sl rs_sl (ev_v 5) ov_none (ov_some ev_int))) gv_name (gl_name (by decide)) tv_yes (ev_call (fun _ _ => RpL.nil) (av_cons (ev_v 14) (av_cons (ev_op ro_ix (ev_v 4) ev_int) (av_cons (ev_v 10) av_nil))) av_nil)) (ev_lst (av_cons (ev_call (fun _ _ => RpL.nil) (av_cons (ev_op ro_ix (ev_v 5) ev_int) (av_cons (ev_op ro_ix (ev_v 4) ev_int) (av_cons (ev_v 10) av_nil))) av_nil) av_nil))) gv_name)
      (sv_seq (sv_asg (ev_op ro_add (ev_v 7) ev_int) gv_name)
      (sv_seq (sv_if (tv_or (tv_test (ev_op ro_ne (ev_op ro_ix (ev_v 13) ev_int) (ev_v 12))) (tv_or (tv_test (ev_op ro_ne (ev_op ro_ix (ev_v 13) ev_int) (ev_op ro_ix (ev_v 13) ev_int))) (tv_test (ev_op ro_ne (ev_meth (fun _ _ => RpL.nil) (ev_op ro_ix (ev_v 5) ev_int) (av_cons (ev_op ro_ix (ev_v 4) ev_int) av_nil) av_nil) (ev_lst av_nil))))) (sv_ret ev_bl) sv_next)
      (sv_seq (sv_if (tv_and (tv_B (ev_v 3)) (tv_or (tv_test (ev_op ro_ne (ev_op ro_ix (ev_v 13) ev_int) (ev_v 12))) (tv_test (ev_op ro_ne (ev_meth (fun _ _ => RpL.nil) (ev_op ro_ix (ev_v 5) ev_int) (av_cons (ev_op ro_ix (ev_v 4) ev_int) av_nil) av_nil) (ev_lst av_nil))))) (sv_ret ev_bl) sv_next)
      (sv_seq (sv_if (tv_and (tv_B (ev_v 3)) (tv_test (ev_op ro_ne (ev_meth (fun _ _ => RpL.nil) (ev_v 6) (av_cons (ev_op ro_ix (ev_v 4) ev_int) av_nil) av_nil) (ev_meth (fun _ _ => RpL.nil) (ev_op ro_ix (ev_v 4) ev_int) av_nil av_nil)))) (sv_ret ev_bl) sv_next)
      (sv_seq (sv_if (tv_or (tv_test (ev_op ro_gt (ev_cb rc_max (av_cons (ev_fldU T.nx T.ni (ev_op ro_ix (ev_v 5) ev_int)) (av_cons (ev_fldU T.nx T.ni (ev_op ro_ix (ev_v 5) ev_int)) av_nil))) (ev_v 7))) (tv_test (ev_op ro_ne (ev_fldU T.nx T.ni (ev_op ro_ix (ev_v 5) ev_int)) (ev_fldU T.nx T.ni (ev_op ro_ix (ev_v 5) ev_int))))) (sv_ret ev_bl) sv_next)
      (sv_if (tv_test (ev_op ro_ne (ev_meth (fun _ _ => RpL.nil) (ev_op ro_ix (ev_v 5) ev_int) (av_cons (ev_op ro_ix (ev_v 4) ev_int) av_nil) av_nil) (ev_meth (fun _ _ => RpL.nil) (ev_op ro_ix (ev_v 5) ev_int) (av_cons (ev_op ro_ix (ev_v 4) ev_int) av_nil) av_nil))) (sv_ret ev_bl) sv_next))))))))))))))
      (sv_seq (sv_drop (ev_meth (fun _ _ => RpL.nil) (ev_v 6) av_nil av_nil))
      (sv_ret (ev_andV (ev_op ro_eq (ev_meth (fun _ _ => RpL.nil) (ev_v 6) (av_cons (ev_op ro_ix (ev_v 4) ev_int) av_nil) av_nil) (ev_meth (fun _ _ => RpL.nil) (ev_op ro_ix (ev_v 4) ev_int) av_nil av_nil)) (ev_op ro_eq (ev_meth (fun _ _ => RpL.nil) (ev_make (fun _ _ => RpL.nil) av_nil av_nil) (av_cons (ev_op ro_ix (ev_v 4) ev_int) av_nil) av_nil) (ev_meth (fun _ _ => RpL.nil) (ev_op ro_ix (ev_v 4) ev_int) av_nil av_nil))))))))))⟩
theorem ok_law {f : Addr} {fd : FuncData} (F : FunD Γ.K "law" "law" (defArgs s_law) (defBody s_law) (defScope s_law) [] [] f fd) (T : Glb Γ mg) (D_law_take : DefM P w Γ.K mg base "_law_take" s_law_take 1 ["_law_pile", "_law_size"] [] (FM Γ m_law_take)) (D_law_older_good : DefM P w Γ.K mg base "_law_older_good" s_law_older_good 9 ["_law_store", "_law_forms", "_law_first", "_law_second"] [] (FM Γ m_law_older_good)) (D_Store___init__ : DefI P w Γ.K mg base (Γ.c 14) "Store.__init__" s_Store___init__ 2 ["self", "name"] [] (FM Γ m_Store___init__)) (D_Forms___init__ : DefI P w Γ.K mg base (Γ.c 16) "Forms.__init__" s_Forms___init__ 2 ["self", "check"] [("check", .str "stamp")] (FM Γ m_Forms___init__)) (D_law_cell : DefM P w Γ.K mg base "_law_cell" s_law_cell 2 ["_law_script", "_law_k"] [] (FM Γ m_law_cell)) (D_law_history_good : DefM P w Γ.K mg base "_law_history_good" s_law_history_good 10 ["_law_script", "_law_start", "_law_many", "_law_own"] [] (FM Γ m_law_history_good)) : FnOk P w Γ.K mg base (L2.CX P w) 11 f fd ["_law_script"] (FM Γ m_law) := by
  refine okN F sc_law (fun cdv A outer s H E hr => ?_)
  have hu := hr.units
  have nd := sc_law.nd
  have tk : Takes (cxOf (L2.CX P w) P w Γ.K mg base ["_law_script", "_law_k", "_law_many", "_law_own", "_law_pair", "_law_first"] "law" (defScope s_law) f cdv A outer s H E) (fun cls d _ H => E cls d H) := takes_of rfl rfl rfl rfl
  exact ⟨_, (pss_cons (ps_for (passes_of rfl) rfl (pi_range1 (by rfl) T.z_range (pa_cons pe_int pa_nil)) (pg_name (i := 1) nd rfl (Or.inl rfl)) (pss_cons (ps_set (i := 2) nd rfl (Or.inl rfl) (pe_op uop_add pe_int (pe_dMP D_law_take 2 [] [0, 1] (fun _ h => nomatch h) (fun _ _ _ _ _ _ _ us mv ws hk h1 h2 h3 => match us, mv, ws, h1, h2, h3 with | [_, _], [], [], _, _, _ => rfl) (hr.mono (by decide)) tk (by rfl) (pa_cons (pe_lst (pa_cons (pe_dMP D_law_cell 2 [] [0, 1] (fun _ h => nomatch h) (fun _ _ _ _ _ _ _ us mv ws hk h1 h2 h3 => match us, mv, ws, h1, h2, h3 with | [_, _], [], [], _, _, _ => rfl) (hr.mono (by decide)) tk (by rfl) (pa_cons (pv 0) (pa_cons (pv 1) pa_nil))) pa_nil)) (pa_cons pe_int pa_nil)))))
      (pss_one (ps_for (passes_of rfl) rfl (k_pi_tup (K := Γ.K) rfl (pe_tup (pa_cons pe_bl (pa_cons pe_bl pa_nil)))) (pg_name (i := 3) nd rfl (Or.inl rfl)) (pss_one (ps_if (pt_not (pt_val (pe_dMP D_law_history_good 4 [] [0, 1, 2, 3] (fun _ h => nomatch h) (fun _ _ _ _ _ _ _ us mv ws hk h1 h2 h3 => match us, mv, ws, h1, h2, h3 with | [_, _, _, _], [], [], _, _, _ => rfl) (hr.mono (by decide)) tk (by rfl) (pa_cons (pv 0) (pa_cons (pe_op uop_add pe_int (pe_op uop_mul pe_int (pv 1))) (pa_cons (pv 2) (pa_cons (pv 3) pa_nil))))))) (pss_one (ps_ret pe_bl)) pss_nil))))))
      (pss_cons (ps_set (i := 4) nd rfl (Or.inl rfl) (pe_dMP D_law_take 2 [] [0, 1] (fun _ h => nomatch h) (fun _ _ _ _ _ _ _ us mv ws hk h1 h2 h3 => match us, mv, ws, h1, h2, h3 with | [_, _], [], [], _, _, _ => rfl) (hr.mono (by decide)) tk (by rfl) (pa_cons (pe_lst (pa_cons (pe_dMP D_law_cell 2 [] [0, 1] (fun _ h => nomatch h) (fun _ _ _ _ _ _ _ us mv ws hk h1 h2 h3 => match us, mv, ws, h1, h2, h3 with | [_, _], [], [], _, _, _ => rfl) (hr.mono (by decide)) tk (by rfl) (pa_cons (pv 0) (pa_cons pe_int pa_nil))) pa_nil)) (pa_cons pe_int pa_nil))))
      (pss_cons (ps_set (i := 5) nd rfl (Or.inl rfl) (pe_ix (k_ix (K := Γ.K) rfl) (pe_lst (pa_cons pe_str (pa_cons pe_str (pa_cons pe_str pa_nil)))) (pv 4) (fun _ _ => rfl)))
      (pss_one (ps_ret (pe_dMP D_law_older_good 4 [] [0, 1, 2, 3] (fun _ h => nomatch h) (fun _ _ _ _ _ _ _ us mv ws hk h1 h2 h3 => match us, mv, ws, h1, h2, h3 with | [_, _, _, _], [], [], _, _, _ => rfl) (hr.mono (by decide)) tk (by rfl) (pa_cons (pe_mIP D_Store___init__ 1 [] [0, 1] (fun _ h => nomatch h) (fun _ _ _ _ _ _ _ us mv ws hk h1 h2 h3 => match us, mv, ws, h1, h2, h3 with | [_, _], [], [], _, _, _ => rfl) (hr.mono (by decide)) tk (by rfl) T.g_Store (pa_cons pe_str pa_nil)) (pa_cons (pe_mIP0 D_Forms___init__ [("check", .str "stamp")] [0, 1] (by simp) (fun _ _ _ _ _ _ _ us mv ws hk h1 h2 h3 => match us, mv, ws, h1, h2, h3 with | [_], [_], [], _, _, _ => by cases hk (by decide); exact ⟨_, _, _, _, _, _, rfl, rfl, rfl⟩) (hr.mono (by decide)) tk (by rfl) T.g_Forms) (pa_cons (pv 5) (pa_cons (pe_ix (k_ix (K := Γ.K) rfl) (pe_lst (pa_cons pe_str (pa_cons pe_str (pa_cons pe_str pa_nil)))) (pv 4) (fun _ _ => rfl)) pa_nil)))))))))), (sv_seq (sv_for (iv_rng1 (av_cons ev_int av_nil)) gv_name (sv_seq (sv_asg (ev_op ro_add ev_int (ev_call (fun _ _ => RpL.nil) (av_cons (ev_new (av_cons (ev_call (fun _ _ => RpL.nil) (av_cons (ev_v 0) (av_cons (ev_v 1) av_nil)) av_nil) av_nil)) (av_cons ev_int av_nil)) av_nil)) gv_name)
      (sv_for (iv_tup (ev_tup (av_cons ev_bl (av_cons ev_bl av_nil)))) gv_name (sv_if (tv_not (tv_B (ev_call (fun _ _ => RpL.nil) (av_cons (ev_v 0) (av_cons (ev_op ro_add ev_int (ev_op ro_mul ev_int (ev_v 1))) (av_cons (ev_v 2) (av_cons (ev_v 3) av_nil)))) av_nil))) (sv_ret ev_bl) sv_next))))
      (sv_seq (sv_asg (ev_call (fun _ _ => RpL.nil) (av_cons (ev_new (av_cons (ev_call (fun _ _ => RpL.nil) (av_cons (ev_v 0) (av_cons ev_int av_nil)) av_nil) av_nil)) (av_cons ev_int av_nil)) av_nil) gv_name)
      (sv_seq (sv_asg (ev_op ro_ix (ev_lst (av_cons ev_str (av_cons ev_str (av_cons ev_str av_nil)))) (ev_v 4)) gv_name)
      (sv_ret (ev_call (fun _ _ => RpL.nil) (av_cons (ev_make (fun _ _ => RpL.nil) (av_cons ev_str av_nil) av_nil) (av_cons (ev_make (fun _ _ => (.cons (Rp.str _) RpL.nil)) av_nil av_nil) (av_cons (ev_v 5) (av_cons (ev_op ro_ix (ev_lst (av_cons ev_str (av_cons ev_str (av_cons ev_str av_nil)))) (ev_v 4)) av_nil)))) av_nil)))))⟩
end
theorem e_take {μ : Mem} {p : Nat} {n k : Int} (h : μ[p]? = some (.lst [.int n])) (hk : 0 < k) (hk2 : k.natAbs < 1073741824) : m_law_take [.ptr p, .int k] μ = .ok (.int (n.fmod k)) (μ.set p (.lst [.int (n.fdiv k)])) := by
  have h0 : k ≠ 0 := by omega
  have hC : CDivN n k := ⟨h0, hk2⟩
  simp [m_law_take, mDef, stSub, oIx, oMod_int h0, oFdiv_int hC, asS, asL, h, L2.atI, ixN]
theorem e_mixed {μ : Mem} {c k : Int} (h0 : 0 ≤ k) (h1 : k ≤ 10000) : m_law_mixed [.int c, .int k] μ = .ok (.int (mixedI c k)) μ := by
  have b1 := fmod_lt (a := c) (b := 2147483647) (by decide)
  have b2 := fmod_lt (a := c.fmod 2147483647 * 48271 + k * 69621 + 1048583) (b := 2147483629) (by decide)
  have b3 := fmod_lt (a := (c.fmod 2147483647 * 48271 + k * 69621 + 1048583).fmod 2147483629 * (c.fmod 2147483647 * 48271 + k * 69621 + 1048583).fmod 2147483629) (b := 2147483587) (by decide)
  have e1 : CMulW (c.fmod 2147483647) 48271 := cmw 64 64 (by omega) (by decide)
  have e2 : CMulW k 69621 := cmw 64 64 (by omega) (by decide)
  have e3 := cmw (i := (c.fmod 2147483647 * 48271 + k * 69621 + 1048583).fmod 2147483629) (j := (c.fmod 2147483647 * 48271 + k * 69621 + 1048583).fmod 2147483629) 64 64 (by omega) (by omega)
  have e4 := cmw (i := ((c.fmod 2147483647 * 48271 + k * 69621 + 1048583).fmod 2147483629 * (c.fmod 2147483647 * 48271 + k * 69621 + 1048583).fmod 2147483629).fmod 2147483587) (j := ((c.fmod 2147483647 * 48271 + k * 69621 + 1048583).fmod 2147483629 * (c.fmod 2147483647 * 48271 + k * 69621 + 1048583).fmod 2147483629).fmod 2147483587 + 2) 64 64 (by omega) (by omega)
  simp [m_law_mixed, mDef, oMod_int, oMul_int e1, oMul_int e2, oMul_int e3, oMul_int e4, mixedI]
theorem rng_at {lo : Int} {n i : Nat} {d : Dt} (h : (rngD lo n)[i]? = some d) : d = .int (lo + (i : Int)) ∧ i < n := by
  unfold rngD at h
  rw [List.getElem?_map] at h
  obtain ⟨j, hj, rfl⟩ := Option.map_eq_some_iff.mp h
  obtain ⟨h1, h2⟩ := List.getElem?_eq_some_iff.mp hj
  rw [List.length_range] at h1
  rw [List.getElem_range] at h2
  subst h2
  exact ⟨rfl, h1⟩
theorem e_cell {μ : Mem} {ns : List Int} {k : Int} (h0 : 0 ≤ k) (h1 : k ≤ 100) : m_law_cell [.scr (ns.map Dt.int), .int k] μ = .ok (.int (cellF ns k)) μ := by
  have hp : CPow 10 18 := ⟨by decide, by decide, by decide⟩
  have hp6 : CPow 10 60 := ⟨by decide, by decide, by decide⟩
  have loop : ∀ y, ∃ δ' , forL (gSet 4) b_law_cell_1 none (rngD 0 24) [some (.scr (ns.map Dt.int)), some (.int k), some (.int (cellAt ns k)), some (.int 0), y] μ = .nx δ' μ ∧ δ'[3]? = some (some (.int (foundI (cellAt ns k) k 24))) := by
    intro y
    obtain ⟨δ', μ', e, z, hz, hm⟩ := forL_run (fun i δ μ' => ∃ y, δ = [some (.scr (ns.map Dt.int)), some (.int k), some (.int (cellAt ns k)), some (.int (foundI (cellAt ns k) k i)), y] ∧ μ' = μ) ⟨y, rfl, rfl⟩ (tg := gSet 4) (body := b_law_cell_1) (ds := rngD 0 24) (μ := μ) (by
      rintro i d δ μ' hd ⟨y, rfl, rfl⟩
      obtain ⟨rfl, hi⟩ := rng_at hd
      have hb := found_nat (cellAt ns k) k i (by omega)
      have hq : (i : Int) * i ≤ 24 * 24 := Int.mul_le_mul (by omega) (by omega) (by omega) (by omega)
      have hq0 : (0 : Int) ≤ (i : Int) * i := Int.mul_nonneg (by omega) (by omega)
      have c1 : CMulW (foundI (cellAt ns k) k i) 2147483579 := cmw 744 64 hb (by decide)
      have c2 : CMulW 7 k := cmw 64 64 (by decide) (by omega)
      have c3 : CMulW 100 (0 + (i : Int)) := cmw 64 64 (by decide) (by omega)
      have c4 : CMulW (0 + (i : Int)) (0 + (i : Int)) := cmw 64 64 (by omega) (by omega)
      have em := @e_mixed μ' (cellAt ns k) (7 * k + 100 * (0 + (i : Int)) + (0 + (i : Int)) * (0 + (i : Int))) (by rw [Int.zero_add]; omega) (by rw [Int.zero_add]; omega)
      refine ⟨_, _, μ', rfl, ?_, some (.int (0 + (i : Int))), rfl, rfl⟩
      rw [found_succ]
      simp only [Int.zero_add] at *
      simp [b_law_cell_1, oMul_int c1, oMul_int c2, oMul_int c3, oMul_int c4, pm, em])
    refine ⟨δ', by rw [hm] at e; exact e, by rw [hz]; rfl⟩
  have c1 : CMulW (10 ^ (60 : Int).toNat) (10 ^ (60 : Int).toNat) := by unfold CMulW; decide +kernel
  have c2 : CMulW (10 ^ (60 : Int).toNat * 10 ^ (60 : Int).toNat) (10 ^ (60 : Int).toNat) := by unfold CMulW; decide +kernel
  have c3 : CMulW (10 ^ (60 : Int).toNat * 10 ^ (60 : Int).toNat * 10 ^ (60 : Int).toNat) (10 ^ (60 : Int).toNat) := by unfold CMulW; decide +kernel
  have nz : bigM ≠ 0 := by decide +kernel
  have rest : ∀ δ3 : DM.Env, δ3 = [some (.scr (ns.map Dt.int)), some (.int k), some (.int (cellAt ns k)), none, none] → ((sSeq (sIf (mTest (mOp oGe (mV 2) (mOp oPow (mC (.int 10)) (mC (.int 18))))) (sRet (mOp oMod (mOp oSub (mV 2) (mOp oPow (mC (.int 10)) (mC (.int 18)))) (mOp oMul (mOp oMul (mOp oMul (mOp oPow (mC (.int 10)) (mC (.int 60))) (mOp oPow (mC (.int 10)) (mC (.int 60)))) (mOp oPow (mC (.int 10)) (mC (.int 60)))) (mOp oPow (mC (.int 10)) (mC (.int 60)))))) sNext)
    (sSeq (sAsg (mC (.int 0)) (gSet 3))
    (sSeq (sFor (miRng1 (mCons (mC (.int 24)) mNil)) (gSet 4) b_law_cell_1)
    (sRet (mV 3))))) δ3 μ).out = .ok (.int (cellF ns k)) μ := by
    rintro δ3 rfl
    by_cases hc : (10 : Int) ^ (18 : Int).toNat ≤ cellAt ns k
    · have e : cellF ns k = (cellAt ns k - 10 ^ (18 : Int).toNat).fmod bigM := if_pos hc
      rw [e]
      unfold bigM at nz ⊢
      simp only [sSeq, sIf, mTest, mOp, mV, mC, bind_ok, List.getElem?_cons_succ, List.getElem?_cons_zero, oPow_int hp, oPow_int hp6, oGe_int, thn_ok, hc, decide_true, if_true, oSub_int, oMul_int c1, oMul_int c2, oMul_int c3, oMod_int nz, sRet, Othn_rt, out_rt]
    · have e : cellF ns k = foundI (cellAt ns k) k 24 := if_neg hc
      obtain ⟨δ', e1, e2⟩ := loop none
      rw [e]
      simp only [sSeq, sIf, mTest, mOp, mV, mC, bind_ok, List.getElem?_cons_succ, List.getElem?_cons_zero, oPow_int hp, oGe_int, thn_ok, hc, decide_false, if_false, Bool.false_eq_true, sNext, Othn_nx, sAsg, gSet, List.set_cons_succ, List.set_cons_zero, sFor, miRng1, mCons, mNil, srcR1]
      rw [if_pos (by decide)]
      have e1' := e1
      simp only [sAsg, mOp, mV, mC, mCall, mCons, mNil, gSet, thn_ok] at e1' ⊢
      rw [show (24 : Int).toNat = 24 from rfl, e1']
      simp [e2]
  by_cases hk : k < (ns.length : Int)
  · have e0 : (k.toNat : Int) = k := by omega
    have hx : L2.atI (ns.map Dt.int) k = some (.int (cellAt ns k)) := by
      unfold cellAt
      rw [if_pos hk]
      have := atI_nat (xs := ns.map Dt.int) (j := k.toNat) (v := .int (ns.getD k.toNat 0)) (by rw [List.getElem?_map, List.getD_eq_getElem?_getD, List.getElem?_eq_getElem (by omega)]; rfl)
      rwa [e0] at this
    have r := rest _ rfl
    unfold m_law_cell
    rw [mDef_eq (by rfl), ← r]
    simp only [sSeq, sIf, sAsg, mTest, mOp, mV, mC, mCB, mCons, mNil, bind_ok, thn_ok, gSet, Othn_nx, List.map_cons, List.map_nil, List.cons_append, List.nil_append, List.replicate, List.getElem?_cons_succ, List.getElem?_cons_zero, List.set_cons_succ, List.set_cons_zero, cLen_scr, oLt_int, List.length_map, hk, decide_true, if_true, oIx, hx]
  · have hx : cellAt ns k = 0 := if_neg hk
    have r := rest _ rfl
    rw [hx] at r
    unfold m_law_cell
    rw [mDef_eq (by rfl), ← r]
    simp only [sSeq, sIf, sAsg, mTest, mOp, mV, mC, mCB, mCons, mNil, bind_ok, thn_ok, gSet, Othn_nx, sNext, List.map_cons, List.map_nil, List.cons_append, List.nil_append, List.replicate, List.getElem?_cons_succ, List.getElem?_cons_zero, List.set_cons_succ, List.set_cons_zero, cLen_scr, oLt_int, List.length_map, hk, decide_false, if_false, Bool.false_eq_true]
theorem set_at {μ : Mem} {p : Nat} {o u : MO} (h : μ[p]? = some o) : (μ.set p u)[p]? = some u := List.getElem?_set_self (List.getElem?_eq_some_iff.mp h).1
theorem three_at (i : Int) (h0 : 0 ≤ i) (h : i < 3) : L2.atI [Dt.str "a", .str "b", .str "ab"] i = some (.str (threeS i)) := by
  have : i = 0 ∨ i = 1 ∨ i = 2 := by omega
  rcases this with rfl | rfl | rfl <;> rfl

/-! names.py -/
def okT : Dt → Bool
  | .str z => decide (z.length ≤ 100000)
  | .non => true
  | .bl _ => true
  | .int _ => true
  | .lst _ => true
  | .tup _ => true
  | _ => false
def isStrD : Dt → Bool
  | .str _ => true
  | _ => false
theorem kb1 : kitB "str" "str" = some true := by decide +kernel
theorem kb2 : kitB "NoneType" "str" = some false := by decide +kernel
theorem kb3 : kitB "bool" "str" = some false := by decide +kernel
theorem kb4 : kitB "int" "str" = some false := by decide +kernel
theorem kb5 : kitB "list" "str" = some false := by decide +kernel
theorem kb6 : kitB "tuple" "str" = some false := by decide +kernel
theorem e_isstr {d : Dt} {μ : Mem} (h : okT d = true) : cIsi tab [d, .ty "str"] μ = .ok (.bl (isStrD d)) μ := by
  cases d <;> first | exact absurd h Bool.false_ne_true | simp [cIsi, tyOf, tyN, kb1, kb2, kb3, kb4, kb5, kb6, isStrD]
theorem e_part_all {z : Str} {δ : DM.Env} {μ : Mem} {c : Nat} (hj : c < δ.length) : lcL (gSet c) mYes (mOp (oIn false) (mV c) (mC (.str "abcdefghijklmnopqrstuvwxyz"))) δ none (signsD z) μ = .ok ((z.cps.toList.map fun x => decide (x ∈ smallS.cps.toList)).map Dt.bl) μ := by
  have := lcL_map (tg := gSet c) (me := mOp (oIn false) (mV c) (mC (.str "abcdefghijklmnopqrstuvwxyz"))) (δ := δ) (ds := signsD z) (μ := μ) (fun d => match d with | .str x => .bl (decide (x.cps.getD 0 0 ∈ smallS.cps.toList)) | _ => .non) (fun d hd => by
    unfold signsD at hd
    obtain ⟨x, hx, rfl⟩ := List.mem_map.mp hd
    refine ⟨_, rfl, ?_⟩
    simp [hj, oIn, smallS])
  rw [this]
  simp [signsD, Function.comp_def]
theorem e_is_part {d : Dt} {μ : Mem} (h : okT d = true) : m_is_part [d] μ = .ok (.bl (isPartD d)) μ := by
  unfold m_is_part
  rw [mDef_eq (by rfl)]
  have hi := e_isstr (μ := μ) h
  cases d with
  | str z =>
    have hz : z.length ≤ 10000000 := Nat.le_trans (of_decide_eq_true (p := z.length ≤ 100000) h) (by decide)
    have hz1 : (signsD z).length ≤ 1000000 := by simp [signsD]; exact Nat.le_trans (of_decide_eq_true (p := z.length ≤ 100000) h) (by decide)
    have ha := e_part_all (z := z) (δ := wipeD [some (.str z), none] [1]) (μ := μ) (c := 1) (by simp [wipeD])
    by_cases c1 : (1 : Int) ≤ (z.length : Int)
    · by_cases c2 : (z.length : Int) ≤ 8
      · simp only [sRet_ap, mIf_ap, mTest_ap, mCB_ap, mCons_ap, mNil_ap, mV_ap, mC_ap, bind_ok, hi, isStrD, List.map_cons, List.map_nil, List.cons_append, List.nil_append, List.replicate, List.getElem?_cons_zero, tst_bl, if_true, mChain, oLe_int, cLen_str hz, c1, c2, decide_true, mLc, lcR, miStr_ap, srcS, hz1, ha, cAll_map, thn_ok, out_rt]
        simp [isPartD, partS, c1, c2]
      · simp [hi, isStrD, mChain, cLen_str hz, c1, c2, isPartD, partS]
    · simp [hi, isStrD, mChain, cLen_str hz, c1, isPartD, partS]
  | _ => first | exact absurd h Bool.false_ne_true | simp [hi, isStrD, isPartD]
theorem okT_str {z : Str} (h : okT (.str z) = true) : z.length ≤ 100000 := of_decide_eq_true (p := z.length ≤ 100000) h
theorem e_name_all {l : List Str} {δ : DM.Env} {μ : Mem} {c : Nat} (hj : c < δ.length) (hl : ∀ y ∈ l, y.length ≤ 100000) : lcL (gSet c) mYes (mCall 1 0 m_is_part [0] [] (mCons (mV c) mNil) mNil) δ none (strsD l) μ = .ok ((l.map partS).map Dt.bl) μ := by
  have := lcL_map (tg := gSet c) (me := mCall 1 0 m_is_part [0] [] (mCons (mV c) mNil) mNil) (δ := δ) (ds := strsD l) (μ := μ) (fun d => .bl (isPartD d)) (fun d hd => by
    unfold strsD at hd
    obtain ⟨x, hx, rfl⟩ := List.mem_map.mp hd
    refine ⟨_, rfl, ?_⟩
    have e := e_is_part (μ := μ) (d := .str x) (decide_eq_true (hl x hx))
    simp [hj, pm, e])
  rw [this]
  simp [strsD, Function.comp_def, isPartD]
theorem e_is_name {d : Dt} {μ : Mem} (h : okT d = true) : m_is_name [d] μ = .ok (.bl (isNameD d)) μ := by
  unfold m_is_name
  have hi := e_isstr (μ := μ) h
  cases d with
  | str z =>
    have hz0 := okT_str h
    have hm := split_many (x := z) tl_dot (by decide)
    have ha := e_name_all (l := Txt.split z dotS) (δ := wipeD [some (.str z), some (.lst (strsD (Txt.split z dotS))), none] [2]) (μ := μ) (c := 2) (by simp [wipeD]) (fun y hy => Nat.le_trans (split_len tl_dot (by decide) hy) hz0)
    by_cases c1 : ((Txt.split z dotS).length : Int) ≤ 4
    · simp (disch := first | assumption | omega | (simp; done) | (simp; omega)) [oFld_ptr, oFld_exc, insAt, mMeth_ap, dctAt, oDGet_ptr, oDIn_ptr, stPut_ptr, O_no, sTry_ap, oCatN_pl, bAppend_ptr, srcZ_lp, srcL_ptr, oSl_ptr, oIx_ptr, lstAt,  bCount_dot, bSplit_dot, bRpart_dot, bLstrip_dot, bJoin_dot, bJoin_none, oIx_lst, oIx_tup, oIx_scr, oIx_str, oSl_str, srcR1_int, srcR2_int, cLen_str, oAdd_str, oAdd_lst, oEq_int, oNe_int, oEq_str, oNe_str, mDef_ap, if_no, cLenD_ptr, hi, isStrD, c1, ha, -List.map_map]
      simp [cAll_map, isNameD, nameS, c1, -List.map_map]
    · simp (disch := first | assumption | omega | (simp; done) | (simp; omega)) [oFld_ptr, oFld_exc, insAt, mMeth_ap, dctAt, oDGet_ptr, oDIn_ptr, stPut_ptr, O_no, sTry_ap, oCatN_pl, bAppend_ptr, srcZ_lp, srcL_ptr, oSl_ptr, oIx_ptr, lstAt,  bCount_dot, bSplit_dot, bRpart_dot, bLstrip_dot, bJoin_dot, bJoin_none, oIx_lst, oIx_tup, oIx_scr, oIx_str, oSl_str, srcR1_int, srcR2_int, cLen_str, oAdd_str, oAdd_lst, oEq_int, oNe_int, oEq_str, oNe_str, mDef_ap, if_no, cLenD_ptr, hi, isStrD, c1]
      simp [isNameD, nameS, c1]
  | _ => first | exact absurd h Bool.false_ne_true | simp (disch := first | assumption | omega | (simp; done) | (simp; omega)) [oFld_ptr, oFld_exc, insAt, mMeth_ap, dctAt, oDGet_ptr, oDIn_ptr, stPut_ptr, O_no, sTry_ap, oCatN_pl, bAppend_ptr, srcZ_lp, srcL_ptr, oSl_ptr, oIx_ptr, lstAt,  bCount_dot, bSplit_dot, bRpart_dot, bLstrip_dot, bJoin_dot, bJoin_none, oIx_lst, oIx_tup, oIx_scr, oIx_str, oSl_str, srcR1_int, srcR2_int, cLen_str, oAdd_str, oAdd_lst, oEq_int, oNe_int, oEq_str, oNe_str, mDef_ap, if_no, cLenD_ptr, hi, isStrD, isNameD]

/-! bodies.py, as data -/
section
variable {μ : Mem} {δ : DM.Env}
theorem eqF_str {a b : Str} : eqF (.str a) (.str b) = (b == a) := by
  show (a == b) = (b == a)
  by_cases h : a = b
  · rw [h]
  · have h1 : (a == b) = false := by rw [beq_eq_false_iff_ne]; exact h
    have h2 : (b == a) = false := by rw [beq_eq_false_iff_ne]; exact fun e => h e.symm
    rw [h1, h2]
theorem in2s {w a b : Str} : oIn false (.str w) (.tup [.str a, .str b]) μ = .ok (.bl (w == a || w == b)) μ := by
  have e : oIn false (.str w) (.tup [.str a, .str b]) μ = if flatD (.str w) = true ∧ [Dt.str a, .str b].all flatD = true then .ok (.bl ([Dt.str a, .str b].any fun e => eqF e (.str w))) μ else .no := rfl
  rw [e, if_pos ⟨rfl, rfl⟩, List.any_cons, List.any_cons, List.any_nil, eqF_str, eqF_str, Bool.or_false]
theorem e_sign_all {S z : Str} {c : Nat} (hj : c < δ.length) : lcL (gSet c) mYes (mOp (oIn false) (mV c) (mC (.str S))) δ none (signsD z) μ = .ok ((z.cps.toList.map fun x => decide (x ∈ S.cps.toList)).map Dt.bl) μ := by
  have := lcL_map (tg := gSet c) (me := mOp (oIn false) (mV c) (mC (.str S))) (δ := δ) (ds := signsD z) (μ := μ) (fun d => match d with | .str x => .bl (decide (x.cps.getD 0 0 ∈ S.cps.toList)) | _ => .non) (fun d hd => by
    unfold signsD at hd
    obtain ⟨x, hx, rfl⟩ := List.mem_map.mp hd
    refine ⟨_, rfl, ?_⟩
    simp [hj, oIn])
  rw [this]
  simp [signsD, Function.comp_def]
def figS (z : Str) : Str := if (cutS z none (some 1) == Str.ofString "-") = true then cutS z (some 1) none else z
def digS (f : Str) : Bool := (f.cps.toList.map fun x => decide (x ∈ ("0123456789" : Str).cps.toList)).all id
def headS (f : Str) : Str := ⟨#[f.cps.toList.headD 0]⟩
def numS (z : Str) : Bool := (decide ((1 : Int) ≤ ((figS z).length : Int)) && decide (((figS z).length : Int) ≤ 9)) && digS (figS z) && (!(headS (figS z) == Str.ofString "0") || z == Str.ofString "0")
theorem cut1_len {z : Str} : (cutS z (some 1) none).length ≤ z.length := by
  have e := tl_cutFrom z 1
  have e2 : (cutS z (some 1) none).length = ((tl z).drop 1).length := by
    rw [← e, len_tl]
    rfl
  rw [e2, List.length_drop, len_tl]
  omega
theorem fig_len {z : Str} : (figS z).length ≤ z.length := by
  unfold figS
  split
  · exact cut1_len
  · exact Nat.le_refl _
theorem head_at {f : Str} (h : 1 ≤ f.length) : L2.atI f.cps.toList 0 = some (f.cps.toList.headD 0) := by
  have hl : 0 < f.cps.toList.length := by
    have := len_tl f
    unfold tl at this
    omega
  have := atI_nat (xs := f.cps.toList) (j := 0) (v := f.cps.toList.headD 0) (by
    cases e : f.cps.toList with
    | nil => rw [e] at hl; exact absurd hl (Nat.lt_irrefl _)
    | cons a r => rfl)
  exact this
theorem e_is_number {z : Str} (h : z.length ≤ 100000) : m_is_number [.str z] μ = .ok (.bl (numS z)) μ := by
  unfold m_is_number
  rw [mDef_ap (by rfl)]
  have hz : z.length ≤ 10000000 := Nat.le_trans h (by decide)
  have hf := Nat.le_trans (fig_len (z := z)) hz
  refine Eq.trans (b := O.out (.rt (.bl (numS z)) μ)) (congrArg O.out ?_) rfl
  refine seq_step (δ1 := [some (.str z), some (.str z), none]) (μ1 := μ) (by simp (disch := first | assumption | omega | (simp; done) | (simp; omega)) [oFld_ptr, oFld_exc, insAt, mMeth_ap, dctAt, oDGet_ptr, oDIn_ptr, stPut_ptr, O_no, sTry_ap, oCatN_pl, bAppend_ptr, srcZ_lp, srcL_ptr, oSl_ptr, oIx_ptr, lstAt,  bCount_dot, bSplit_dot, bRpart_dot, bLstrip_dot, bJoin_dot, bJoin_none, oIx_lst, oIx_tup, oIx_scr, oIx_str, oSl_str, srcR1_int, srcR2_int, cLen_str, oAdd_str, oAdd_lst, oEq_int, oNe_int, oEq_str, oNe_str, mDef_ap, if_no, cLenD_ptr]) ?_
  refine seq_step (δ1 := [some (.str z), some (.str (figS z)), none]) (μ1 := μ) (by
    unfold figS
    cases c : (cutS z none (some 1) == Str.ofString "-") <;> simp (disch := first | assumption | omega | (simp; done) | (simp; omega)) [oFld_ptr, oFld_exc, insAt, mMeth_ap, dctAt, oDGet_ptr, oDIn_ptr, stPut_ptr, O_no, sTry_ap, oCatN_pl, bAppend_ptr, srcZ_lp, srcL_ptr, oSl_ptr, oIx_ptr, lstAt,  bCount_dot, bSplit_dot, bRpart_dot, bLstrip_dot, bJoin_dot, bJoin_none, oIx_lst, oIx_tup, oIx_scr, oIx_str, oSl_str, srcR1_int, srcR2_int, cLen_str, oAdd_str, oAdd_lst, oEq_int, oNe_int, oEq_str, oNe_str, mDef_ap, if_no, cLenD_ptr, c]) ?_
  have hz1 : (signsD (figS z)).length ≤ 1000000 := by simp [signsD]; exact Nat.le_trans (Nat.le_trans fig_len h) (by decide)
  have ha := e_sign_all (S := "0123456789") (z := figS z) (δ := wipeD [some (.str z), some (.str (figS z)), none] [2]) (μ := μ) (c := 2) (by simp [wipeD])
  have hd : cAll [.lst (((figS z).cps.toList.map fun x => decide (x ∈ ("0123456789" : Str).cps.toList)).map Dt.bl)] μ = .ok (.bl (digS (figS z))) μ := cAll_map
  generalize ((figS z).cps.toList.map fun x => decide (x ∈ ("0123456789" : Str).cps.toList)) = bs at ha hd
  unfold numS
  by_cases c1 : (1 : Int) ≤ ((figS z).length : Int)
  · have hx := head_at (f := figS z) (by omega)
    by_cases c2 : ((figS z).length : Int) ≤ 9
    · cases c3 : digS (figS z) with
      | false => simp (disch := first | assumption | omega | (simp; done) | (simp; omega)) [oFld_ptr, oFld_exc, insAt, mMeth_ap, dctAt, oDGet_ptr, oDIn_ptr, stPut_ptr, O_no, sTry_ap, oCatN_pl, bAppend_ptr, srcZ_lp, srcL_ptr, oSl_ptr, oIx_ptr, lstAt,  bCount_dot, bSplit_dot, bRpart_dot, bLstrip_dot, bJoin_dot, bJoin_none, oIx_lst, oIx_tup, oIx_scr, oIx_str, oSl_str, srcR1_int, srcR2_int, cLen_str, oAdd_str, oAdd_lst, oEq_int, oNe_int, oEq_str, oNe_str, mDef_ap, if_no, cLenD_ptr, c1, c2, ha, hd, c3, -List.map_map]
      | true =>
        have hh : headS (figS z) = ⟨#[(figS z).cps.toList.headD 0]⟩ := rfl
        rw [hh]
        generalize (figS z).cps.toList.headD 0 = q at hx ⊢
        cases c4 : ((⟨#[q]⟩ : Str) == Str.ofString "0") <;> simp (disch := first | assumption | omega | (simp; done) | (simp; omega)) [oFld_ptr, oFld_exc, insAt, mMeth_ap, dctAt, oDGet_ptr, oDIn_ptr, stPut_ptr, O_no, sTry_ap, oCatN_pl, bAppend_ptr, srcZ_lp, srcL_ptr, oSl_ptr, oIx_ptr, lstAt,  bCount_dot, bSplit_dot, bRpart_dot, bLstrip_dot, bJoin_dot, bJoin_none, oIx_lst, oIx_tup, oIx_scr, oIx_str, oSl_str, srcR1_int, srcR2_int, cLen_str, oAdd_str, oAdd_lst, oEq_int, oNe_int, oEq_str, oNe_str, mDef_ap, if_no, cLenD_ptr, c1, c2, ha, hd, c3, hx, c4, -List.map_map]
    · simp (disch := first | assumption | omega | (simp; done) | (simp; omega)) [oFld_ptr, oFld_exc, insAt, mMeth_ap, dctAt, oDGet_ptr, oDIn_ptr, stPut_ptr, O_no, sTry_ap, oCatN_pl, bAppend_ptr, srcZ_lp, srcL_ptr, oSl_ptr, oIx_ptr, lstAt,  bCount_dot, bSplit_dot, bRpart_dot, bLstrip_dot, bJoin_dot, bJoin_none, oIx_lst, oIx_tup, oIx_scr, oIx_str, oSl_str, srcR1_int, srcR2_int, cLen_str, oAdd_str, oAdd_lst, oEq_int, oNe_int, oEq_str, oNe_str, mDef_ap, if_no, cLenD_ptr, c1, c2]
  · simp (disch := first | assumption | omega | (simp; done) | (simp; omega)) [oFld_ptr, oFld_exc, insAt, mMeth_ap, dctAt, oDGet_ptr, oDIn_ptr, stPut_ptr, O_no, sTry_ap, oCatN_pl, bAppend_ptr, srcZ_lp, srcL_ptr, oSl_ptr, oIx_ptr, lstAt,  bCount_dot, bSplit_dot, bRpart_dot, bLstrip_dot, bJoin_dot, bJoin_none, oIx_lst, oIx_tup, oIx_scr, oIx_str, oSl_str, srcR1_int, srcR2_int, cLen_str, oAdd_str, oAdd_lst, oEq_int, oNe_int, oEq_str, oNe_str, mDef_ap, if_no, cLenD_ptr, c1]
def sumS (z : Str) : Bool := decide (((Txt.split z "+").length : Int) ≤ 8) && ((Txt.split z "+").map fun t => numS t || nameS t).all id
theorem tl_plus : tl ("+" : Str) = [43] := by decide +kernel
theorem e_is_sum {z : Str} (h : z.length ≤ 100000) : m_is_sum [.str z] μ = .ok (.bl (sumS z)) μ := by
  unfold m_is_sum
  have hz : z.length ≤ 10000000 := Nat.le_trans h (by decide)
  have hm := split_many (x := z) tl_plus (by decide)
  have hlen : ∀ y ∈ Txt.split z "+", y.length ≤ 100000 := fun y hy => Nat.le_trans (split_len tl_plus (by decide) hy) h
  have hs : bSplit (.str z) [.str (Str.ofString "+")] μ = .ok (.lst (strsD (Txt.split z "+"))) μ := bSplit_str (by decide +kernel) hz
  have ha : lcL (gSet 2) mYes (mIf (mTest (mCall 1 0 m_is_number [0] [] (mCons (mV 2) mNil) mNil)) (mC (.bl true)) (mCall 1 0 m_is_name [0] [] (mCons (mV 2) mNil) mNil)) (wipeD [some (.str z), some (.lst (strsD (Txt.split z "+"))), none] [2]) none (strsD (Txt.split z "+")) μ = .ok (((Txt.split z "+").map fun t => numS t || nameS t).map Dt.bl) μ := by
    have := lcL_map (tg := gSet 2) (me := mIf (mTest (mCall 1 0 m_is_number [0] [] (mCons (mV 2) mNil) mNil)) (mC (.bl true)) (mCall 1 0 m_is_name [0] [] (mCons (mV 2) mNil) mNil)) (δ := wipeD [some (.str z), some (.lst (strsD (Txt.split z "+"))), none] [2]) (ds := strsD (Txt.split z "+")) (μ := μ) (fun d => match d with | .str t => .bl (numS t || nameS t) | _ => .non) (fun d hd => by
      unfold strsD at hd
      obtain ⟨t, ht, rfl⟩ := List.mem_map.mp hd
      refine ⟨_, rfl, ?_⟩
      have e1 := e_is_number (μ := μ) (hlen t ht)
      have e2 := e_is_name (μ := μ) (d := .str t) (decide_eq_true (hlen t ht))
      cases c : numS t <;> simp (disch := first | assumption | omega | (simp; done) | (simp; omega)) [oFld_ptr, oFld_exc, insAt, mMeth_ap, dctAt, oDGet_ptr, oDIn_ptr, stPut_ptr, O_no, sTry_ap, oCatN_pl, bAppend_ptr, srcZ_lp, srcL_ptr, oSl_ptr, oIx_ptr, lstAt,  bCount_dot, bSplit_dot, bRpart_dot, bLstrip_dot, bJoin_dot, bJoin_none, oIx_lst, oIx_tup, oIx_scr, oIx_str, oSl_str, srcR1_int, srcR2_int, cLen_str, oAdd_str, oAdd_lst, oEq_int, oNe_int, oEq_str, oNe_str, mDef_ap, if_no, cLenD_ptr, wipeD, e1, e2, c, isNameD])
    rw [this]
    simp [strsD, Function.comp_def]
  have hd : cAll [.lst (((Txt.split z "+").map fun t => numS t || nameS t).map Dt.bl)] μ = .ok (.bl (((Txt.split z "+").map fun t => numS t || nameS t).all id)) μ := cAll_map
  have hlz : (strsD (Txt.split z "+")).length ≤ 1000000 := by rw [strsD, List.length_map]; omega
  unfold sumS
  by_cases c : ((Txt.split z "+").length : Int) ≤ 8
  · simp (disch := first | assumption | omega | (simp; done) | (simp; omega)) [oFld_ptr, oFld_exc, insAt, mMeth_ap, dctAt, oDGet_ptr, oDIn_ptr, stPut_ptr, O_no, sTry_ap, oCatN_pl, bAppend_ptr, srcZ_lp, srcL_ptr, oSl_ptr, oIx_ptr, lstAt,  bCount_dot, bSplit_dot, bRpart_dot, bLstrip_dot, bJoin_dot, bJoin_none, oIx_lst, oIx_tup, oIx_scr, oIx_str, oSl_str, srcR1_int, srcR2_int, cLen_str, oAdd_str, oAdd_lst, oEq_int, oNe_int, oEq_str, oNe_str, mDef_ap, if_no, cLenD_ptr, hs, c, ha, hd, -List.map_map]
  · simp (disch := first | assumption | omega | (simp; done) | (simp; omega)) [oFld_ptr, oFld_exc, insAt, mMeth_ap, dctAt, oDGet_ptr, oDIn_ptr, stPut_ptr, O_no, sTry_ap, oCatN_pl, bAppend_ptr, srcZ_lp, srcL_ptr, oSl_ptr, oIx_ptr, lstAt,  bCount_dot, bSplit_dot, bRpart_dot, bLstrip_dot, bJoin_dot, bJoin_none, oIx_lst, oIx_tup, oIx_scr, oIx_str, oSl_str, srcR1_int, srcR2_int, cLen_str, oAdd_str, oAdd_lst, oEq_int, oNe_int, oEq_str, oNe_str, mDef_ap, if_no, cLenD_ptr, hs, c]
def boundS (l : List Str) : Bool := match l with
  | [a, b, c] => nameS a && (b == Str.ofString "as" && partS c)
  | _ => false
theorem okS {z : Str} (h : z.length ≤ 100000) : okT (.str z) = true := decide_eq_true h
theorem e_part_s {z : Str} (h : z.length ≤ 100000) : m_is_part [.str z] μ = .ok (.bl (partS z)) μ := e_is_part (okS h)
theorem e_name_s {z : Str} (h : z.length ≤ 100000) : m_is_name [.str z] μ = .ok (.bl (nameS z)) μ := e_is_name (okS h)
theorem e_is_bound {l : List Str} (h : ∀ z ∈ l, z.length ≤ 100000) : m_is_bound [.lst (strsD l)] μ = .ok (.bl (boundS l)) μ := by
  unfold m_is_bound
  by_cases c : l.length = 3
  · match l, c with
    | [x, y, z], _ =>
      have hx := e_name_s (μ := μ) (h x (by simp))
      have hz := e_part_s (μ := μ) (h z (by simp))
      have a0 : L2.atI [Dt.str x, .str y, .str z] 0 = some (.str x) := rfl
      have a1 : L2.atI [Dt.str x, .str y, .str z] 1 = some (.str y) := rfl
      have a2 : L2.atI [Dt.str x, .str y, .str z] 2 = some (.str z) := rfl
      cases c1 : nameS x <;> cases c2 : (y == Str.ofString "as") <;> simp (disch := first | assumption | omega | (simp; done) | (simp; omega)) [oFld_ptr, oFld_exc, insAt, mMeth_ap, dctAt, oDGet_ptr, oDIn_ptr, stPut_ptr, O_no, sTry_ap, oCatN_pl, bAppend_ptr, srcZ_lp, srcL_ptr, oSl_ptr, oIx_ptr, lstAt,  bCount_dot, bSplit_dot, bRpart_dot, bLstrip_dot, bJoin_dot, bJoin_none, oIx_lst, oIx_tup, oIx_scr, oIx_str, oSl_str, srcR1_int, srcR2_int, cLen_str, oAdd_str, oAdd_lst, oEq_int, oNe_int, oEq_str, oNe_str, mDef_ap, if_no, cLenD_ptr, strsD, a0, a1, a2, hx, hz, c1, c2, boundS]
  · have c' : ¬ ((l.length : Int) = 3) := by omega
    have hb : boundS l = false := by
      unfold boundS
      split
      · exact absurd rfl c
      · rfl
    have hl : (strsD l).length = l.length := List.length_map ..
    rw [hb]
    generalize strsD l = L at hl
    rw [← hl] at c'
    have c2 : ((L.length : Int) == 3) = false := by rw [beq_eq_false_iff_ne]; exact c'
    simp (disch := first | assumption | omega | (simp; done) | (simp; omega)) [oFld_ptr, oFld_exc, insAt, mMeth_ap, dctAt, oDGet_ptr, oDIn_ptr, stPut_ptr, O_no, sTry_ap, oCatN_pl, bAppend_ptr, srcZ_lp, srcL_ptr, oSl_ptr, oIx_ptr, lstAt,  bCount_dot, bSplit_dot, bRpart_dot, bLstrip_dot, bJoin_dot, bJoin_none, oIx_lst, oIx_tup, oIx_scr, oIx_str, oSl_str, srcR1_int, srcR2_int, cLen_str, oAdd_str, oAdd_lst, oEq_int, oNe_int, oEq_str, oNe_str, mDef_ap, if_no, cLenD_ptr, c', c2]
theorem e_near1 {d : Dt} {μ : Mem} (h : okT d = true) : m_is_near [d] μ = .ok (.bl (isNearD d)) μ := by
  unfold m_is_near
  have hi := e_isstr (μ := μ) h
  cases d with
  | str z =>
    have hz0 := okT_str h
    have hb := beh_len z
    have hn := e_is_name (μ := μ) (d := .str (behS z)) (decide_eq_true (by omega))
    have hsub : (z.length : Int) - ((behS z).length : Int) = (dotsN z : Int) := by omega
    have he : (behS z == (Str.ofString "")) = decide (behS z = Str.empty) := by
      by_cases c : behS z = Str.empty
      · rw [c]
        rfl
      · rw [decide_eq_false c, beq_eq_false_iff_ne]
        exact c
    by_cases c1 : (dotsN z : Int) ≤ 4
    · have c1' : dotsN z ≤ 4 := by omega
      cases c2 : nameS (behS z) with
      | true => simp (disch := first | assumption | omega | (simp; done) | (simp; omega)) [oFld_ptr, oFld_exc, insAt, mMeth_ap, dctAt, oDGet_ptr, oDIn_ptr, stPut_ptr, O_no, sTry_ap, oCatN_pl, bAppend_ptr, srcZ_lp, srcL_ptr, oSl_ptr, oIx_ptr, lstAt,  bCount_dot, bSplit_dot, bRpart_dot, bLstrip_dot, bJoin_dot, bJoin_none, oIx_lst, oIx_tup, oIx_scr, oIx_str, oSl_str, srcR1_int, srcR2_int, cLen_str, oAdd_str, oAdd_lst, oEq_int, oNe_int, oEq_str, oNe_str, mDef_ap, if_no, cLenD_ptr, hi, isStrD, hsub, hn, isNearD, nearS, isNameD, c1, c1', c2]
      | false => cases c3 : decide (behS z = Str.empty) <;> simp (disch := first | assumption | omega | (simp; done) | (simp; omega)) [oFld_ptr, oFld_exc, insAt, mMeth_ap, dctAt, oDGet_ptr, oDIn_ptr, stPut_ptr, O_no, sTry_ap, oCatN_pl, bAppend_ptr, srcZ_lp, srcL_ptr, oSl_ptr, oIx_ptr, lstAt,  bCount_dot, bSplit_dot, bRpart_dot, bLstrip_dot, bJoin_dot, bJoin_none, oIx_lst, oIx_tup, oIx_scr, oIx_str, oSl_str, srcR1_int, srcR2_int, cLen_str, oAdd_str, oAdd_lst, oEq_int, oNe_int, oEq_str, oNe_str, mDef_ap, if_no, cLenD_ptr, hi, isStrD, hsub, hn, isNearD, nearS, isNameD, c1, c1', c2, he, c3, -decide_eq_true_eq, -decide_eq_false_iff_not]
    · have c1' : ¬ dotsN z ≤ 4 := by omega
      simp (disch := first | assumption | omega | (simp; done) | (simp; omega)) [oFld_ptr, oFld_exc, insAt, mMeth_ap, dctAt, oDGet_ptr, oDIn_ptr, stPut_ptr, O_no, sTry_ap, oCatN_pl, bAppend_ptr, srcZ_lp, srcL_ptr, oSl_ptr, oIx_ptr, lstAt,  bCount_dot, bSplit_dot, bRpart_dot, bLstrip_dot, bJoin_dot, bJoin_none, oIx_lst, oIx_tup, oIx_scr, oIx_str, oSl_str, srcR1_int, srcR2_int, cLen_str, oAdd_str, oAdd_lst, oEq_int, oNe_int, oEq_str, oNe_str, mDef_ap, if_no, cLenD_ptr, hi, isStrD, hsub, isNearD, nearS, c1, c1']
  | _ => first | exact absurd h Bool.false_ne_true | simp (disch := first | assumption | omega | (simp; done) | (simp; omega)) [oFld_ptr, oFld_exc, insAt, mMeth_ap, dctAt, oDGet_ptr, oDIn_ptr, stPut_ptr, O_no, sTry_ap, oCatN_pl, bAppend_ptr, srcZ_lp, srcL_ptr, oSl_ptr, oIx_ptr, lstAt,  bCount_dot, bSplit_dot, bRpart_dot, bLstrip_dot, bJoin_dot, bJoin_none, oIx_lst, oIx_tup, oIx_scr, oIx_str, oSl_str, srcR1_int, srcR2_int, cLen_str, oAdd_str, oAdd_lst, oEq_int, oNe_int, oEq_str, oNe_str, mDef_ap, if_no, cLenD_ptr, hi, isStrD, isNearD]

def nearT (z : Str) : Bool := isNearD (.str z)
theorem e_near_s {z : Str} (h : z.length ≤ 100000) : m_is_near [.str z] μ = .ok (.bl (nearT z)) μ := e_near1 (okS h)
def takenS (l : List Str) : Bool := match l with
  | [a, b, c] => nearT a && (b == Str.ofString "take" && partS c)
  | [a, b, c, d, e] => (nearT a && (b == Str.ofString "take" && partS c)) && (!(c == Str.ofString "all") && (d == Str.ofString "as" && partS e))
  | _ => false
theorem in35 {n : Int} : oIn true (.int n) (.tup [.int 3, .int 5]) μ = .ok (.bl (!(n == 3 || n == 5))) μ := by
  have e : oIn true (.int n) (.tup [.int 3, .int 5]) μ = if flatD (.int n) = true ∧ [Dt.int 3, .int 5].all flatD = true then .ok (.bl (!([Dt.int 3, .int 5].any fun e => eqF e (.int n)))) μ else .no := rfl
  rw [e, if_pos ⟨rfl, rfl⟩, List.any_cons, List.any_cons, List.any_nil]
  have f : ∀ a : Int, eqF (.int a) (.int n) = (n == a) := fun a => by
    show (a == n) = (n == a)
    by_cases h : a = n
    · rw [h]
    · have h1 : (a == n) = false := by rw [beq_eq_false_iff_ne]; exact h
      have h2 : (n == a) = false := by rw [beq_eq_false_iff_ne]; exact fun e => h e.symm
      rw [h1, h2]
  rw [f, f, Bool.or_false]
theorem e_is_taken {l : List Str} (h : ∀ z ∈ l, z.length ≤ 100000) : m_is_taken [.lst (strsD l)] μ = .ok (.bl (takenS l)) μ := by
  unfold m_is_taken
  by_cases c : l.length = 3
  · match l, c with
    | [x, y, z], _ =>
      have hx := e_near_s (μ := μ) (h x (by simp))
      have hz := e_part_s (μ := μ) (h z (by simp))
      have a0 : L2.atI [Dt.str x, .str y, .str z] 0 = some (.str x) := rfl
      have a1 : L2.atI [Dt.str x, .str y, .str z] 1 = some (.str y) := rfl
      have a2 : L2.atI [Dt.str x, .str y, .str z] 2 = some (.str z) := rfl
      have i3 := in35 (n := 3) (μ := μ)
      cases c1 : nearT x <;> cases c2 : (y == Str.ofString "take") <;> cases c3 : partS z <;> simp (disch := first | assumption | omega | (simp; done) | (simp; omega)) [oFld_ptr, oFld_exc, insAt, mMeth_ap, dctAt, oDGet_ptr, oDIn_ptr, stPut_ptr, O_no, sTry_ap, oCatN_pl, bAppend_ptr, srcZ_lp, srcL_ptr, oSl_ptr, oIx_ptr, lstAt,  bCount_dot, bSplit_dot, bRpart_dot, bLstrip_dot, bJoin_dot, bJoin_none, oIx_lst, oIx_tup, oIx_scr, oIx_str, oSl_str, srcR1_int, srcR2_int, cLen_str, oAdd_str, oAdd_lst, oEq_int, oNe_int, oEq_str, oNe_str, mDef_ap, if_no, cLenD_ptr, strsD, a0, a1, a2, i3, hx, hz, c1, c2, c3, takenS]
  · by_cases c5 : l.length = 5
    · match l, c5 with
      | [x, y, z, u, v], _ =>
        have hx := e_near_s (μ := μ) (h x (by simp))
        have hz := e_part_s (μ := μ) (h z (by simp))
        have hv := e_part_s (μ := μ) (h v (by simp))
        have a0 : L2.atI [Dt.str x, .str y, .str z, .str u, .str v] 0 = some (.str x) := rfl
        have a1 : L2.atI [Dt.str x, .str y, .str z, .str u, .str v] 1 = some (.str y) := rfl
        have a2 : L2.atI [Dt.str x, .str y, .str z, .str u, .str v] 2 = some (.str z) := rfl
        have a3 : L2.atI [Dt.str x, .str y, .str z, .str u, .str v] 3 = some (.str u) := rfl
        have a4 : L2.atI [Dt.str x, .str y, .str z, .str u, .str v] 4 = some (.str v) := rfl
        have i5 := in35 (n := 5) (μ := μ)
        cases c1 : nearT x <;> cases c2 : (y == Str.ofString "take") <;> cases c3 : partS z <;> cases c4 : (z == Str.ofString "all") <;> cases c6 : (u == Str.ofString "as") <;> simp (disch := first | assumption | omega | (simp; done) | (simp; omega)) [oFld_ptr, oFld_exc, insAt, mMeth_ap, dctAt, oDGet_ptr, oDIn_ptr, stPut_ptr, O_no, sTry_ap, oCatN_pl, bAppend_ptr, srcZ_lp, srcL_ptr, oSl_ptr, oIx_ptr, lstAt,  bCount_dot, bSplit_dot, bRpart_dot, bLstrip_dot, bJoin_dot, bJoin_none, oIx_lst, oIx_tup, oIx_scr, oIx_str, oSl_str, srcR1_int, srcR2_int, cLen_str, oAdd_str, oAdd_lst, oEq_int, oNe_int, oEq_str, oNe_str, mDef_ap, if_no, cLenD_ptr, strsD, a0, a1, a2, a3, a4, i5, hx, hz, hv, c1, c2, c3, c4, c6, takenS]
    · have hb : takenS l = false := by
        unfold takenS
        split
        · exact absurd rfl c
        · exact absurd rfl c5
        · rfl
      have hl : (strsD l).length = l.length := List.length_map ..
      have ii := in35 (n := ((strsD l).length : Int)) (μ := μ)
      rw [hb]
      have k3 : (((strsD l).length : Int) == 3) = false := by rw [beq_eq_false_iff_ne]; omega
      have k5 : (((strsD l).length : Int) == 5) = false := by rw [beq_eq_false_iff_ne]; omega
      rw [k3, k5] at ii
      generalize strsD l = L at ii
      simp (disch := first | assumption | omega | (simp; done) | (simp; omega)) [oFld_ptr, oFld_exc, insAt, mMeth_ap, dctAt, oDGet_ptr, oDIn_ptr, stPut_ptr, O_no, sTry_ap, oCatN_pl, bAppend_ptr, srcZ_lp, srcL_ptr, oSl_ptr, oIx_ptr, lstAt,  bCount_dot, bSplit_dot, bRpart_dot, bLstrip_dot, bJoin_dot, bJoin_none, oIx_lst, oIx_tup, oIx_scr, oIx_str, oSl_str, srcR1_int, srcR2_int, cLen_str, oAdd_str, oAdd_lst, oEq_int, oNe_int, oEq_str, oNe_str, mDef_ap, if_no, cLenD_ptr, ii]
def two1 (r : List Str) (f : Str → Str → Bool) : Bool := match r with
  | [a, b] => f a b
  | _ => false
def one1 (r : List Str) (f : Str → Bool) (g : Bool) : Bool := match r with
  | [a] => f a
  | _ => g
theorem two1_no {r : List Str} {f : Str → Str → Bool} (h : r.length ≠ 2) : two1 r f = false := by
  match r, h with
  | [], _ => rfl
  | [a], _ => rfl
  | [a, b], h => exact absurd rfl h
  | a :: b :: c :: r, _ => rfl
theorem one1_no {r : List Str} {f : Str → Bool} {g : Bool} (h : r.length ≠ 1) : one1 r f g = g := by
  match r, h with
  | [], _ => rfl
  | [a], h => exact absurd rfl h
  | a :: b :: r, _ => rfl
/-- a row's words -/
def rowS2 (w : Str) (r : List Str) : Bool :=
    if (w == Str.ofString "set" || w == Str.ofString "when") = true then two1 r (fun a b => partS a && sumS b)
    else if (w == Str.ofString "del" || w == Str.ofString "fail") = true then one1 r partS false
    else if (w == Str.ofString "note") = true then one1 r sumS false
    else if (w == Str.ofString "show") = true then decide (0 < r.length) && ((r.map partS).all id && decide r.Nodup)
    else if (w == Str.ofString "again" || w == Str.ofString "drop") = true then one1 r nameS false
    else if (w == Str.ofString "load") = true then one1 r nameS (boundS r)
    else if (w == Str.ofString "later" || w == Str.ofString "may") = true then boundS r
    else w == Str.ofString "from" && takenS r
def rowS (l : List Str) : Bool := match l with
  | [] => false
  | w :: r => rowS2 w r
theorem len_ne {l : List Str} {n : Nat} (h : l.length ≠ n) : (((strsD l).length : Int) == (n : Int)) = false := by
  rw [beq_eq_false_iff_ne, strsD, List.length_map]
  omega
theorem e_is_row {w : Str} {r : List Str} (hln : r.length ≤ 100000) (h : ∀ z ∈ r, z.length ≤ 100000) (hu : w = "show" → m_are_unlike [.lst (strsD r)] μ = .ok (.bl (decide r.Nodup)) μ) : m_is_row [.tup (strsD (w :: r))] μ = .ok (.bl (rowS (w :: r))) μ := by
  unfold m_is_row
  rw [mDef_ap (by rfl)]
  refine Eq.trans (b := O.out (.rt (.bl (rowS (w :: r))) μ)) (congrArg O.out ?_) rfl
  refine seq_step (δ1 := [some (.tup (strsD (w :: r))), some (.str w), some (.lst (strsD r)), none]) (μ1 := μ) (by
    rw [show strsD (w :: r) = .str w :: strsD r from rfl]
    simp (disch := first | assumption | omega | (simp; done) | (simp; omega)) [oFld_ptr, oFld_exc, insAt, mMeth_ap, dctAt, oDGet_ptr, oDIn_ptr, stPut_ptr, O_no, sTry_ap, oCatN_pl, bAppend_ptr, srcZ_lp, srcL_ptr, oSl_ptr, oIx_ptr, lstAt,  bCount_dot, bSplit_dot, bRpart_dot, bLstrip_dot, bJoin_dot, bJoin_none, oIx_lst, oIx_tup, oIx_scr, oIx_str, oSl_str, srcR1_int, srcR2_int, cLen_str, oAdd_str, oAdd_lst, oEq_int, oNe_int, oEq_str, oNe_str, mDef_ap, if_no, cLenD_ptr, sAsg, gStarM, -strsD_cons]) ?_
  generalize some (Dt.tup (strsD (w :: r))) = x0
  show _ = O.rt (.bl (rowS2 w r)) μ
  unfold rowS2
  have i1 := in2s (w := w) (a := "set") (b := "when") (μ := μ)
  have i2 := in2s (w := w) (a := "del") (b := "fail") (μ := μ)
  have i3 := in2s (w := w) (a := "again") (b := "drop") (μ := μ)
  have i4 := in2s (w := w) (a := "later") (b := "may") (μ := μ)
  cases c1 : (w == Str.ofString "set" || w == Str.ofString "when") with
  | true =>
    rw [if_pos rfl]
    have i1' : oIn false (.str w) (.tup [.str (Str.ofString "set"), .str (Str.ofString "when")]) μ = .ok (.bl true) μ := i1.trans (by rw [c1])
    by_cases k : r.length = 2
    · match r, k with
      | [a, b], _ =>
        have ha := e_part_s (μ := μ) (h a (by simp))
        have hb := e_is_sum (μ := μ) (h b (by simp))
        have a0 : L2.atI [Dt.str a, .str b] 0 = some (.str a) := rfl
        have a1 : L2.atI [Dt.str a, .str b] 1 = some (.str b) := rfl
        cases c0 : partS a <;> simp (disch := first | assumption | omega | (simp; done) | (simp; omega)) [oFld_ptr, oFld_exc, insAt, mMeth_ap, dctAt, oDGet_ptr, oDIn_ptr, stPut_ptr, O_no, sTry_ap, oCatN_pl, bAppend_ptr, srcZ_lp, srcL_ptr, oSl_ptr, oIx_ptr, lstAt,  bCount_dot, bSplit_dot, bRpart_dot, bLstrip_dot, bJoin_dot, bJoin_none, oIx_lst, oIx_tup, oIx_scr, oIx_str, oSl_str, srcR1_int, srcR2_int, cLen_str, oAdd_str, oAdd_lst, oEq_int, oNe_int, oEq_str, oNe_str, mDef_ap, if_no, cLenD_ptr, i1', strsD, a0, a1, ha, hb, c0, two1]
    · rw [two1_no k]
      have hL : (strsD r).length = r.length := List.length_map ..
      have k2 : (((strsD r).length : Int) == 2) = false := by rw [beq_eq_false_iff_ne]; omega
      generalize strsD r = L at k2 hL ⊢
      simp (disch := first | assumption | omega | (simp; done) | (simp; omega)) [oFld_ptr, oFld_exc, insAt, mMeth_ap, dctAt, oDGet_ptr, oDIn_ptr, stPut_ptr, O_no, sTry_ap, oCatN_pl, bAppend_ptr, srcZ_lp, srcL_ptr, oSl_ptr, oIx_ptr, lstAt,  bCount_dot, bSplit_dot, bRpart_dot, bLstrip_dot, bJoin_dot, bJoin_none, oIx_lst, oIx_tup, oIx_scr, oIx_str, oSl_str, srcR1_int, srcR2_int, cLen_str, oAdd_str, oAdd_lst, oEq_int, oNe_int, oEq_str, oNe_str, mDef_ap, if_no, cLenD_ptr, i1', k2]
  | false =>
  rw [if_neg Bool.false_ne_true]
  have i1' : oIn false (.str w) (.tup [.str (Str.ofString "set"), .str (Str.ofString "when")]) μ = .ok (.bl false) μ := i1.trans (by rw [c1])
  refine seq_step (δ1 := [x0, some (.str w), some (.lst (strsD r)), none]) (μ1 := μ) (by simp (disch := first | assumption | omega | (simp; done) | (simp; omega)) [oFld_ptr, oFld_exc, insAt, mMeth_ap, dctAt, oDGet_ptr, oDIn_ptr, stPut_ptr, O_no, sTry_ap, oCatN_pl, bAppend_ptr, srcZ_lp, srcL_ptr, oSl_ptr, oIx_ptr, lstAt,  bCount_dot, bSplit_dot, bRpart_dot, bLstrip_dot, bJoin_dot, bJoin_none, oIx_lst, oIx_tup, oIx_scr, oIx_str, oSl_str, srcR1_int, srcR2_int, cLen_str, oAdd_str, oAdd_lst, oEq_int, oNe_int, oEq_str, oNe_str, mDef_ap, if_no, cLenD_ptr, i1']) ?_
  cases c2 : (w == Str.ofString "del" || w == Str.ofString "fail") with
  | true =>
    rw [if_pos rfl]
    have i2' : oIn false (.str w) (.tup [.str (Str.ofString "del"), .str (Str.ofString "fail")]) μ = .ok (.bl true) μ := i2.trans (by rw [c2])
    by_cases k : r.length = 1
    · match r, k with
      | [a], _ =>
        have ha := e_part_s (μ := μ) (h a (by simp))
        have a0 : L2.atI [Dt.str a] 0 = some (.str a) := rfl
        simp (disch := first | assumption | omega | (simp; done) | (simp; omega)) [oFld_ptr, oFld_exc, insAt, mMeth_ap, dctAt, oDGet_ptr, oDIn_ptr, stPut_ptr, O_no, sTry_ap, oCatN_pl, bAppend_ptr, srcZ_lp, srcL_ptr, oSl_ptr, oIx_ptr, lstAt,  bCount_dot, bSplit_dot, bRpart_dot, bLstrip_dot, bJoin_dot, bJoin_none, oIx_lst, oIx_tup, oIx_scr, oIx_str, oSl_str, srcR1_int, srcR2_int, cLen_str, oAdd_str, oAdd_lst, oEq_int, oNe_int, oEq_str, oNe_str, mDef_ap, if_no, cLenD_ptr, i2', strsD, a0, ha, one1]
    · rw [one1_no k]
      have hL : (strsD r).length = r.length := List.length_map ..
      have k2 : (((strsD r).length : Int) == 1) = false := by rw [beq_eq_false_iff_ne]; omega
      generalize strsD r = L at k2 hL ⊢
      simp (disch := first | assumption | omega | (simp; done) | (simp; omega)) [oFld_ptr, oFld_exc, insAt, mMeth_ap, dctAt, oDGet_ptr, oDIn_ptr, stPut_ptr, O_no, sTry_ap, oCatN_pl, bAppend_ptr, srcZ_lp, srcL_ptr, oSl_ptr, oIx_ptr, lstAt,  bCount_dot, bSplit_dot, bRpart_dot, bLstrip_dot, bJoin_dot, bJoin_none, oIx_lst, oIx_tup, oIx_scr, oIx_str, oSl_str, srcR1_int, srcR2_int, cLen_str, oAdd_str, oAdd_lst, oEq_int, oNe_int, oEq_str, oNe_str, mDef_ap, if_no, cLenD_ptr, i2', k2]
  | false =>
  rw [if_neg Bool.false_ne_true]
  have i2' : oIn false (.str w) (.tup [.str (Str.ofString "del"), .str (Str.ofString "fail")]) μ = .ok (.bl false) μ := i2.trans (by rw [c2])
  refine seq_step (δ1 := [x0, some (.str w), some (.lst (strsD r)), none]) (μ1 := μ) (by simp (disch := first | assumption | omega | (simp; done) | (simp; omega)) [oFld_ptr, oFld_exc, insAt, mMeth_ap, dctAt, oDGet_ptr, oDIn_ptr, stPut_ptr, O_no, sTry_ap, oCatN_pl, bAppend_ptr, srcZ_lp, srcL_ptr, oSl_ptr, oIx_ptr, lstAt,  bCount_dot, bSplit_dot, bRpart_dot, bLstrip_dot, bJoin_dot, bJoin_none, oIx_lst, oIx_tup, oIx_scr, oIx_str, oSl_str, srcR1_int, srcR2_int, cLen_str, oAdd_str, oAdd_lst, oEq_int, oNe_int, oEq_str, oNe_str, mDef_ap, if_no, cLenD_ptr, i2']) ?_
  cases c3 : (w == Str.ofString "note") with
  | true =>
    rw [if_pos rfl]
    by_cases k : r.length = 1
    · match r, k with
      | [a], _ =>
        have ha := e_is_sum (μ := μ) (h a (by simp))
        have a0 : L2.atI [Dt.str a] 0 = some (.str a) := rfl
        simp (disch := first | assumption | omega | (simp; done) | (simp; omega)) [oFld_ptr, oFld_exc, insAt, mMeth_ap, dctAt, oDGet_ptr, oDIn_ptr, stPut_ptr, O_no, sTry_ap, oCatN_pl, bAppend_ptr, srcZ_lp, srcL_ptr, oSl_ptr, oIx_ptr, lstAt,  bCount_dot, bSplit_dot, bRpart_dot, bLstrip_dot, bJoin_dot, bJoin_none, oIx_lst, oIx_tup, oIx_scr, oIx_str, oSl_str, srcR1_int, srcR2_int, cLen_str, oAdd_str, oAdd_lst, oEq_int, oNe_int, oEq_str, oNe_str, mDef_ap, if_no, cLenD_ptr, c3, strsD, a0, ha, one1]
    · rw [one1_no k]
      have hL : (strsD r).length = r.length := List.length_map ..
      have k2 : (((strsD r).length : Int) == 1) = false := by rw [beq_eq_false_iff_ne]; omega
      generalize strsD r = L at k2 hL ⊢
      simp (disch := first | assumption | omega | (simp; done) | (simp; omega)) [oFld_ptr, oFld_exc, insAt, mMeth_ap, dctAt, oDGet_ptr, oDIn_ptr, stPut_ptr, O_no, sTry_ap, oCatN_pl, bAppend_ptr, srcZ_lp, srcL_ptr, oSl_ptr, oIx_ptr, lstAt,  bCount_dot, bSplit_dot, bRpart_dot, bLstrip_dot, bJoin_dot, bJoin_none, oIx_lst, oIx_tup, oIx_scr, oIx_str, oSl_str, srcR1_int, srcR2_int, cLen_str, oAdd_str, oAdd_lst, oEq_int, oNe_int, oEq_str, oNe_str, mDef_ap, if_no, cLenD_ptr, c3, k2]
  | false =>
  rw [if_neg Bool.false_ne_true]
  refine seq_step (δ1 := [x0, some (.str w), some (.lst (strsD r)), none]) (μ1 := μ) (by simp (disch := first | assumption | omega | (simp; done) | (simp; omega)) [oFld_ptr, oFld_exc, insAt, mMeth_ap, dctAt, oDGet_ptr, oDIn_ptr, stPut_ptr, O_no, sTry_ap, oCatN_pl, bAppend_ptr, srcZ_lp, srcL_ptr, oSl_ptr, oIx_ptr, lstAt,  bCount_dot, bSplit_dot, bRpart_dot, bLstrip_dot, bJoin_dot, bJoin_none, oIx_lst, oIx_tup, oIx_scr, oIx_str, oSl_str, srcR1_int, srcR2_int, cLen_str, oAdd_str, oAdd_lst, oEq_int, oNe_int, oEq_str, oNe_str, mDef_ap, if_no, cLenD_ptr, c3]) ?_
  cases c4 : (w == Str.ofString "show") with
  | true =>
    rw [if_pos rfl]
    have hw : w = "show" := by simpa using c4
    have hun := hu hw
    have ha := e_name_all (l := r) (δ := wipeD [x0, some (.str w), some (.lst (strsD r)), none] [3]) (μ := μ) (c := 3) (by simp [wipeD]) h
    have hd : cAll [.lst ((r.map partS).map Dt.bl)] μ = .ok (.bl ((r.map partS).all id)) μ := cAll_map
    have hL : (strsD r).length = r.length := List.length_map ..
    generalize (r.map partS) = bs at ha hd ⊢
    by_cases k : 0 < r.length
    · have k2 : 0 < (strsD r).length := by omega
      have k3 : (strsD r).length ≤ 1000000 := by omega
      generalize strsD r = L at k2 k3 hL hun ha ⊢
      cases c0 : bs.all id <;> (rw [c0] at hd; simp (disch := first | assumption | omega | (simp; done) | (simp; omega)) [oFld_ptr, oFld_exc, insAt, mMeth_ap, dctAt, oDGet_ptr, oDIn_ptr, stPut_ptr, O_no, sTry_ap, oCatN_pl, bAppend_ptr, srcZ_lp, srcL_ptr, oSl_ptr, oIx_ptr, lstAt,  bCount_dot, bSplit_dot, bRpart_dot, bLstrip_dot, bJoin_dot, bJoin_none, oIx_lst, oIx_tup, oIx_scr, oIx_str, oSl_str, srcR1_int, srcR2_int, cLen_str, oAdd_str, oAdd_lst, oEq_int, oNe_int, oEq_str, oNe_str, mDef_ap, if_no, cLenD_ptr, c4, k2, k3, hun, ha, hd, k])
    · have k2 : ¬ 0 < (strsD r).length := by omega
      generalize strsD r = L at k2 hL ⊢
      simp (disch := first | assumption | omega | (simp; done) | (simp; omega)) [oFld_ptr, oFld_exc, insAt, mMeth_ap, dctAt, oDGet_ptr, oDIn_ptr, stPut_ptr, O_no, sTry_ap, oCatN_pl, bAppend_ptr, srcZ_lp, srcL_ptr, oSl_ptr, oIx_ptr, lstAt,  bCount_dot, bSplit_dot, bRpart_dot, bLstrip_dot, bJoin_dot, bJoin_none, oIx_lst, oIx_tup, oIx_scr, oIx_str, oSl_str, srcR1_int, srcR2_int, cLen_str, oAdd_str, oAdd_lst, oEq_int, oNe_int, oEq_str, oNe_str, mDef_ap, if_no, cLenD_ptr, c4, k2, k]
  | false =>
  rw [if_neg Bool.false_ne_true]
  refine seq_step (δ1 := [x0, some (.str w), some (.lst (strsD r)), none]) (μ1 := μ) (by simp (disch := first | assumption | omega | (simp; done) | (simp; omega)) [oFld_ptr, oFld_exc, insAt, mMeth_ap, dctAt, oDGet_ptr, oDIn_ptr, stPut_ptr, O_no, sTry_ap, oCatN_pl, bAppend_ptr, srcZ_lp, srcL_ptr, oSl_ptr, oIx_ptr, lstAt,  bCount_dot, bSplit_dot, bRpart_dot, bLstrip_dot, bJoin_dot, bJoin_none, oIx_lst, oIx_tup, oIx_scr, oIx_str, oSl_str, srcR1_int, srcR2_int, cLen_str, oAdd_str, oAdd_lst, oEq_int, oNe_int, oEq_str, oNe_str, mDef_ap, if_no, cLenD_ptr, c4]) ?_
  cases c5 : (w == Str.ofString "again" || w == Str.ofString "drop") with
  | true =>
    rw [if_pos rfl]
    have i3' : oIn false (.str w) (.tup [.str (Str.ofString "again"), .str (Str.ofString "drop")]) μ = .ok (.bl true) μ := i3.trans (by rw [c5])
    by_cases k : r.length = 1
    · match r, k with
      | [a], _ =>
        have ha := e_name_s (μ := μ) (h a (by simp))
        have a0 : L2.atI [Dt.str a] 0 = some (.str a) := rfl
        simp (disch := first | assumption | omega | (simp; done) | (simp; omega)) [oFld_ptr, oFld_exc, insAt, mMeth_ap, dctAt, oDGet_ptr, oDIn_ptr, stPut_ptr, O_no, sTry_ap, oCatN_pl, bAppend_ptr, srcZ_lp, srcL_ptr, oSl_ptr, oIx_ptr, lstAt,  bCount_dot, bSplit_dot, bRpart_dot, bLstrip_dot, bJoin_dot, bJoin_none, oIx_lst, oIx_tup, oIx_scr, oIx_str, oSl_str, srcR1_int, srcR2_int, cLen_str, oAdd_str, oAdd_lst, oEq_int, oNe_int, oEq_str, oNe_str, mDef_ap, if_no, cLenD_ptr, i3', strsD, a0, ha, one1]
    · rw [one1_no k]
      have hL : (strsD r).length = r.length := List.length_map ..
      have k2 : (((strsD r).length : Int) == 1) = false := by rw [beq_eq_false_iff_ne]; omega
      generalize strsD r = L at k2 hL ⊢
      simp (disch := first | assumption | omega | (simp; done) | (simp; omega)) [oFld_ptr, oFld_exc, insAt, mMeth_ap, dctAt, oDGet_ptr, oDIn_ptr, stPut_ptr, O_no, sTry_ap, oCatN_pl, bAppend_ptr, srcZ_lp, srcL_ptr, oSl_ptr, oIx_ptr, lstAt,  bCount_dot, bSplit_dot, bRpart_dot, bLstrip_dot, bJoin_dot, bJoin_none, oIx_lst, oIx_tup, oIx_scr, oIx_str, oSl_str, srcR1_int, srcR2_int, cLen_str, oAdd_str, oAdd_lst, oEq_int, oNe_int, oEq_str, oNe_str, mDef_ap, if_no, cLenD_ptr, i3', k2]
  | false =>
  rw [if_neg Bool.false_ne_true]
  have i3' : oIn false (.str w) (.tup [.str (Str.ofString "again"), .str (Str.ofString "drop")]) μ = .ok (.bl false) μ := i3.trans (by rw [c5])
  refine seq_step (δ1 := [x0, some (.str w), some (.lst (strsD r)), none]) (μ1 := μ) (by simp (disch := first | assumption | omega | (simp; done) | (simp; omega)) [oFld_ptr, oFld_exc, insAt, mMeth_ap, dctAt, oDGet_ptr, oDIn_ptr, stPut_ptr, O_no, sTry_ap, oCatN_pl, bAppend_ptr, srcZ_lp, srcL_ptr, oSl_ptr, oIx_ptr, lstAt,  bCount_dot, bSplit_dot, bRpart_dot, bLstrip_dot, bJoin_dot, bJoin_none, oIx_lst, oIx_tup, oIx_scr, oIx_str, oSl_str, srcR1_int, srcR2_int, cLen_str, oAdd_str, oAdd_lst, oEq_int, oNe_int, oEq_str, oNe_str, mDef_ap, if_no, cLenD_ptr, i3']) ?_
  cases c6 : (w == Str.ofString "load") with
  | true =>
    rw [if_pos rfl]
    have hb := e_is_bound (μ := μ) h
    by_cases k : r.length = 1
    · match r, k with
      | [a], _ =>
        have ha := e_name_s (μ := μ) (h a (by simp))
        have a0 : L2.atI [Dt.str a] 0 = some (.str a) := rfl
        have b0 : boundS [a] = false := rfl
        rw [b0] at hb
        simp only [strsD, List.map_cons, List.map_nil] at hb
        cases c0 : nameS a <;> simp (disch := first | assumption | omega | (simp; done) | (simp; omega)) [oFld_ptr, oFld_exc, insAt, mMeth_ap, dctAt, oDGet_ptr, oDIn_ptr, stPut_ptr, O_no, sTry_ap, oCatN_pl, bAppend_ptr, srcZ_lp, srcL_ptr, oSl_ptr, oIx_ptr, lstAt,  bCount_dot, bSplit_dot, bRpart_dot, bLstrip_dot, bJoin_dot, bJoin_none, oIx_lst, oIx_tup, oIx_scr, oIx_str, oSl_str, srcR1_int, srcR2_int, cLen_str, oAdd_str, oAdd_lst, oEq_int, oNe_int, oEq_str, oNe_str, mDef_ap, if_no, cLenD_ptr, c6, strsD, a0, ha, hb, c0, one1]
    · rw [one1_no k]
      have hL : (strsD r).length = r.length := List.length_map ..
      have k2 : (((strsD r).length : Int) == 1) = false := by rw [beq_eq_false_iff_ne]; omega
      generalize strsD r = L at k2 hL hb ⊢
      simp (disch := first | assumption | omega | (simp; done) | (simp; omega)) [oFld_ptr, oFld_exc, insAt, mMeth_ap, dctAt, oDGet_ptr, oDIn_ptr, stPut_ptr, O_no, sTry_ap, oCatN_pl, bAppend_ptr, srcZ_lp, srcL_ptr, oSl_ptr, oIx_ptr, lstAt,  bCount_dot, bSplit_dot, bRpart_dot, bLstrip_dot, bJoin_dot, bJoin_none, oIx_lst, oIx_tup, oIx_scr, oIx_str, oSl_str, srcR1_int, srcR2_int, cLen_str, oAdd_str, oAdd_lst, oEq_int, oNe_int, oEq_str, oNe_str, mDef_ap, if_no, cLenD_ptr, c6, k2, hb]
  | false =>
  rw [if_neg Bool.false_ne_true]
  refine seq_step (δ1 := [x0, some (.str w), some (.lst (strsD r)), none]) (μ1 := μ) (by simp (disch := first | assumption | omega | (simp; done) | (simp; omega)) [oFld_ptr, oFld_exc, insAt, mMeth_ap, dctAt, oDGet_ptr, oDIn_ptr, stPut_ptr, O_no, sTry_ap, oCatN_pl, bAppend_ptr, srcZ_lp, srcL_ptr, oSl_ptr, oIx_ptr, lstAt,  bCount_dot, bSplit_dot, bRpart_dot, bLstrip_dot, bJoin_dot, bJoin_none, oIx_lst, oIx_tup, oIx_scr, oIx_str, oSl_str, srcR1_int, srcR2_int, cLen_str, oAdd_str, oAdd_lst, oEq_int, oNe_int, oEq_str, oNe_str, mDef_ap, if_no, cLenD_ptr, c6]) ?_
  cases c7 : (w == Str.ofString "later" || w == Str.ofString "may") with
  | true =>
    rw [if_pos rfl]
    have i4' : oIn false (.str w) (.tup [.str (Str.ofString "later"), .str (Str.ofString "may")]) μ = .ok (.bl true) μ := i4.trans (by rw [c7])
    have hb := e_is_bound (μ := μ) h
    generalize strsD r = L at hb ⊢
    simp (disch := first | assumption | omega | (simp; done) | (simp; omega)) [oFld_ptr, oFld_exc, insAt, mMeth_ap, dctAt, oDGet_ptr, oDIn_ptr, stPut_ptr, O_no, sTry_ap, oCatN_pl, bAppend_ptr, srcZ_lp, srcL_ptr, oSl_ptr, oIx_ptr, lstAt,  bCount_dot, bSplit_dot, bRpart_dot, bLstrip_dot, bJoin_dot, bJoin_none, oIx_lst, oIx_tup, oIx_scr, oIx_str, oSl_str, srcR1_int, srcR2_int, cLen_str, oAdd_str, oAdd_lst, oEq_int, oNe_int, oEq_str, oNe_str, mDef_ap, if_no, cLenD_ptr, i4', hb]
  | false =>
  rw [if_neg Bool.false_ne_true]
  have i4' : oIn false (.str w) (.tup [.str (Str.ofString "later"), .str (Str.ofString "may")]) μ = .ok (.bl false) μ := i4.trans (by rw [c7])
  refine seq_step (δ1 := [x0, some (.str w), some (.lst (strsD r)), none]) (μ1 := μ) (by simp (disch := first | assumption | omega | (simp; done) | (simp; omega)) [oFld_ptr, oFld_exc, insAt, mMeth_ap, dctAt, oDGet_ptr, oDIn_ptr, stPut_ptr, O_no, sTry_ap, oCatN_pl, bAppend_ptr, srcZ_lp, srcL_ptr, oSl_ptr, oIx_ptr, lstAt,  bCount_dot, bSplit_dot, bRpart_dot, bLstrip_dot, bJoin_dot, bJoin_none, oIx_lst, oIx_tup, oIx_scr, oIx_str, oSl_str, srcR1_int, srcR2_int, cLen_str, oAdd_str, oAdd_lst, oEq_int, oNe_int, oEq_str, oNe_str, mDef_ap, if_no, cLenD_ptr, i4']) ?_
  have ht := e_is_taken (μ := μ) h
  generalize strsD r = L at ht ⊢
  cases c8 : (w == Str.ofString "from") <;> simp (disch := first | assumption | omega | (simp; done) | (simp; omega)) [oFld_ptr, oFld_exc, insAt, mMeth_ap, dctAt, oDGet_ptr, oDIn_ptr, stPut_ptr, O_no, sTry_ap, oCatN_pl, bAppend_ptr, srcZ_lp, srcL_ptr, oSl_ptr, oIx_ptr, lstAt,  bCount_dot, bSplit_dot, bRpart_dot, bLstrip_dot, bJoin_dot, bJoin_none, oIx_lst, oIx_tup, oIx_scr, oIx_str, oSl_str, srcR1_int, srcR2_int, cLen_str, oAdd_str, oAdd_lst, oEq_int, oNe_int, oEq_str, oNe_str, mDef_ap, if_no, cLenD_ptr, c8, ht]
end

/-! stores.py, as data -/
def keyS : Key → Str
  | .inr s => s
  | .inl _ => Str.empty
def namesK (kvs : List (Key × Dt)) : List Str := kvs.map fun kv => keyS kv.1
def allT (kvs : List (Key × Dt)) : Prop := ∀ kv ∈ kvs, ∃ s, kv.1 = Sum.inr s
theorem asTK_of : ∀ {kvs : List (Key × Dt)}, allT kvs → asTK kvs = some (namesK kvs)
  | [], _ => rfl
  | (k, d) :: r, h => by
    obtain ⟨s, e⟩ := h (k, d) List.mem_cons_self
    cases e
    show (asTK r).map _ = _
    rw [asTK_of fun kv hkv => h kv (List.mem_cons_of_mem _ hkv)]
    rfl
theorem names_len {kvs : List (Key × Dt)} : (namesK kvs).length = kvs.length := by simp [namesK]
theorem allT_put {kvs : List (Key × Dt)} {s : Str} {v : Dt} (h : allT kvs) : allT (putKD kvs (.inr s) v) := by
  unfold putKD
  split
  · intro kv hkv
    obtain ⟨q, hq, rfl⟩ := List.mem_map.mp hkv
    split
    · exact h q hq
    · exact h q hq
  · intro kv hkv
    rcases List.mem_append.mp hkv with hq | hq
    · exact h kv hq
    · rw [List.mem_singleton.mp hq]
      exact ⟨s, rfl⟩
theorem allT_drop {kvs : List (Key × Dt)} {k : Key} (h : allT kvs) : allT (dropKD kvs k) := fun kv hkv => h kv (List.mem_filter.mp hkv).1
theorem len_put {kvs : List (Key × Dt)} {k : Key} {v : Dt} : (putKD kvs k v).length ≤ kvs.length + 1 := by
  unfold putKD
  split
  · simp
  · simp
theorem len_drop {kvs : List (Key × Dt)} {k : Key} : (dropKD kvs k).length ≤ kvs.length := List.length_filter_le _ _
theorem find_map {kvs : List (Key × Dt)} {k k' : Key} {v : Dt} : (kvs.map fun kv => if kv.1 = k then (kv.1, v) else kv).find? (fun kv => decide (kv.1 = k')) = (kvs.find? fun kv => decide (kv.1 = k')).map fun kv => if kv.1 = k then (kv.1, v) else kv := by
  induction kvs with
  | nil => rfl
  | cons a r ih =>
    rw [List.map_cons, List.find?_cons, List.find?_cons]
    have e : (if a.1 = k then (a.1, v) else a).1 = a.1 := by split <;> rfl
    rw [e]
    by_cases h : a.1 = k'
    · rw [decide_eq_true h]
      rfl
    · rw [decide_eq_false h]
      exact ih
theorem val_put {kvs : List (Key × Dt)} {k k' : Key} {v : Dt} : valD (putKD kvs k v) k' = if k' = k then some v else valD kvs k' := by
  unfold valD putKD
  split
  · rename_i h
    rw [find_map]
    by_cases c : k' = k
    · rw [if_pos c]
      subst c
      obtain ⟨q, hq, hk⟩ := List.any_eq_true.mp h
      cases e : kvs.find? fun kv => decide (kv.1 = k') with
      | none => exact absurd hk (List.find?_eq_none.mp e q hq)
      | some q2 =>
        have : q2.1 = k' := by simpa using List.find?_some e
        simp [this]
    · rw [if_neg c]
      cases e : kvs.find? fun kv => decide (kv.1 = k') with
      | none => rfl
      | some q2 =>
        have : q2.1 = k' := by simpa using List.find?_some e
        have c' : ¬ q2.1 = k := fun z => c (by rw [← this, z])
        simp [c']
  · rename_i h
    rw [List.find?_append]
    by_cases c : k' = k
    · rw [if_pos c]
      subst c
      have : kvs.find? (fun kv => decide (kv.1 = k')) = none := List.find?_eq_none.mpr fun q hq hk => h (List.any_eq_true.mpr ⟨q, hq, hk⟩)
      rw [this]
      simp
    · rw [if_neg c]
      have c' : ¬ k = k' := fun z => c z.symm
      cases e : kvs.find? fun kv => decide (kv.1 = k') <;> simp [c']
theorem val_drop {kvs : List (Key × Dt)} {k k' : Key} : valD (dropKD kvs k) k' = if k' = k then none else valD kvs k' := by
  unfold valD dropKD
  induction kvs with
  | nil => simp
  | cons a r ih =>
    rw [List.filter_cons]
    by_cases h : a.1 = k
    · simp only [h, ne_eq, not_true_eq_false, decide_false, Bool.false_eq_true, if_false]
      rw [ih, List.find?_cons]
      by_cases c : k' = k
      · rw [if_pos c, if_pos c]
      · have c' : ¬ a.1 = k' := fun z => c (by rw [← z, h])
        rw [if_neg c, if_neg c, decide_eq_false c']
    · simp only [h, ne_eq, not_false_eq_true, decide_true, if_true]
      rw [List.find?_cons, List.find?_cons]
      by_cases c2 : a.1 = k'
      · have c : ¬ k' = k := fun z => h (by rw [c2, z])
        rw [decide_eq_true c2, if_neg c]
      · rw [decide_eq_false c2]
        exact ih
theorem asK_at {μ : Mem} {b : Nat} {kvs : List (Key × Dt)} (h : μ[b]? = some (.dK kvs)) : asK μ (.ptr b) = some kvs := by
  simp [dctAt, h]
def stF (nm : Str) (b : Nat) (c : Int) : List (Str × Dt) := [("name", .str nm), ("bodies", .ptr b), ("changed", .int c)]
structure SAt (μ : Mem) (p b : Nat) (nm : Str) (kvs : List (Key × Dt)) (c : Int) : Prop where
  o : μ[p]? = some (.ins 14 (stF nm b c))
  d : μ[b]? = some (.dK kvs)
theorem lk_name {nm : Str} {b : Nat} {c : Int} : List.lookup (Str.ofString "name") (stF nm b c) = some (.str nm) := rfl
theorem lk_bodies {nm : Str} {b : Nat} {c : Int} : List.lookup (Str.ofString "bodies") (stF nm b c) = some (.ptr b) := rfl
theorem lk_changed {nm : Str} {b : Nat} {c : Int} : List.lookup (Str.ofString "changed") (stF nm b c) = some (.int c) := rfl
theorem lkm_put {nm : Str} {b : Nat} {c : Int} : List.lookup (Str.ofString "put") (stF nm b c) = none := rfl
theorem lkm_take {nm : Str} {b : Nat} {c : Int} : List.lookup (Str.ofString "take") (stF nm b c) = none := rfl
theorem lkm_entry {nm : Str} {b : Nat} {c : Int} : List.lookup (Str.ofString "entry") (stF nm b c) = none := rfl
theorem lkm_names {nm : Str} {b : Nat} {c : Int} : List.lookup (Str.ofString "names") (stF nm b c) = none := rfl
theorem ni_name : ni 14 "name" = true := by decide +kernel
theorem ni_bodies : ni 14 "bodies" = true := by decide +kernel
theorem ni_changed : ni 14 "changed" = true := by decide +kernel
section
variable {μ : Mem} {p b : Nat} {nm : Str} {kvs : List (Key × Dt)} {c : Int}
theorem f_name (h : SAt μ p b nm kvs c) : oFld nx ni "name" (.ptr p) μ = .ok (.str nm) μ := by
  rw [oFld_ptr]
  simp [insAt, h.o, ni_name, lk_name]
theorem f_bodies (h : SAt μ p b nm kvs c) : oFld nx ni "bodies" (.ptr p) μ = .ok (.ptr b) μ := by
  rw [oFld_ptr]
  simp [insAt, h.o, ni_bodies, lk_bodies]
theorem f_changed (h : SAt μ p b nm kvs c) : oFld nx ni "changed" (.ptr p) μ = .ok (.int c) μ := by
  rw [oFld_ptr]
  simp [insAt, h.o, ni_changed, lk_changed]
theorem e_names (h : SAt μ p b nm kvs c) (ht : allT kvs) (hl : kvs.length < 64) : m_Store_names [.ptr p] μ = .ok (.lst (strsD (sortT (namesK kvs)))) μ := by
  unfold m_Store_names
  have hs : cSort [.ptr b] μ = .ok (.lst (strsD (sortT (namesK kvs)))) μ := by
    have hl2 : (namesK kvs).length < 64 := by rw [names_len]; exact hl
    simp only [cSort, asL_ptr, asK_ptr, lstAt, dctAt, h.d, Option.bind_none, Option.bind_some, asTK_of ht]
    exact if_pos hl2
  simp (disch := first | assumption | omega | (simp; done) | (simp; omega)) [oFld_ptr, oFld_exc, insAt, mMeth_ap, dctAt, oDGet_ptr, oDIn_ptr, stPut_ptr, O_no, sTry_ap, oCatN_pl, bAppend_ptr, srcZ_lp, srcL_ptr, oSl_ptr, oIx_ptr, lstAt,  bCount_dot, bSplit_dot, bRpart_dot, bLstrip_dot, bJoin_dot, bJoin_none, oIx_lst, oIx_tup, oIx_scr, oIx_str, oSl_str, srcR1_int, srcR2_int, cLen_str, oAdd_str, oAdd_lst, oEq_int, oNe_int, oEq_str, oNe_str, mDef_ap, if_no, cLenD_ptr, f_bodies h, hs, -oFld_ptr]
theorem e_look {z : Str} (hz : nameS z = true) : m_look_at_name [.str z] μ = .ok .non μ := by
  unfold m_look_at_name
  have hl := name_len hz
  have hn : m_is_name [.str z] μ = .ok (.bl (nameS z)) μ := e_is_name (decide_eq_true (by omega))
  simp (disch := first | assumption | omega | (simp; done) | (simp; omega)) [oFld_ptr, oFld_exc, insAt, mMeth_ap, dctAt, oDGet_ptr, oDIn_ptr, stPut_ptr, O_no, sTry_ap, oCatN_pl, bAppend_ptr, srcZ_lp, srcL_ptr, oSl_ptr, oIx_ptr, lstAt,  bCount_dot, bSplit_dot, bRpart_dot, bLstrip_dot, bJoin_dot, bJoin_none, oIx_lst, oIx_tup, oIx_scr, oIx_str, oSl_str, srcR1_int, srcR2_int, cLen_str, oAdd_str, oAdd_lst, oEq_int, oNe_int, oEq_str, oNe_str, mDef_ap, if_no, cLenD_ptr, hn, hz]
theorem e_entry {z : Str} (h : SAt μ p b nm kvs c) (hz : nameS z = true) : m_Store_entry [.ptr p, .str z] μ = .ok ((valD kvs (.inr z)).getD .non) μ := by
  unfold m_Store_entry
  simp (disch := first | assumption | omega | (simp; done) | (simp; omega)) [oFld_ptr, oFld_exc, insAt, mMeth_ap, dctAt, oDGet_ptr, oDIn_ptr, stPut_ptr, O_no, sTry_ap, oCatN_pl, bAppend_ptr, srcZ_lp, srcL_ptr, oSl_ptr, oIx_ptr, lstAt,  bCount_dot, bSplit_dot, bRpart_dot, bLstrip_dot, bJoin_dot, bJoin_none, oIx_lst, oIx_tup, oIx_scr, oIx_str, oSl_str, srcR1_int, srcR2_int, cLen_str, oAdd_str, oAdd_lst, oEq_int, oNe_int, oEq_str, oNe_str, mDef_ap, if_no, cLenD_ptr, e_look hz, f_bodies h, h.d, -oFld_ptr]
theorem put_changed {a : Int} : putD "changed" (.int a) (stF nm b c) = stF nm b a := rfl
theorem e_put {z t : Str} {k : Bool} {a : Int} (h : SAt μ p b nm kvs c) (hz : nameS z = true) (ht : t.length ≤ 100000) (hpb : p ≠ b) (hl : kvs.length ≤ 1000000) :
    m_Store_put [.ptr p, .str z, .str t, .bl k, .int a] μ = .ok .non ((μ.set b (.dK (putKD kvs (.inr z) (.tup [.str t, .bl k, .int a])))).set p (.ins 14 (stF nm b a))) := by
  unfold m_Store_put
  have hi := e_isstr (μ := μ) (d := .str t) (decide_eq_true ht)
  have hi : cIsi tab [.str t, .ty "str"] μ = .ok (.bl true) μ := hi
  have ho2 : (μ.set b (.dK (putKD kvs (.inr z) (.tup [.str t, .bl k, .int a]))))[p]? = some (.ins 14 (stF nm b c)) := by
    rw [List.getElem?_set_ne (fun e => hpb e.symm)]
    exact h.o
  have s1 : ∀ δ, stFld ni "changed" δ (.int a) (.ptr p) (μ.set b (.dK (putKD kvs (.inr z) (.tup [.str t, .bl k, .int a])))) = .nx δ ((μ.set b (.dK (putKD kvs (.inr z) (.tup [.str t, .bl k, .int a])))).set p (.ins 14 (stF nm b a))) := fun δ => stFld_ptr ho2 ni_changed (show 3 < 1000 by decide)
  simp (disch := first | assumption | omega | (simp; done) | (simp; omega)) [oFld_ptr, oFld_exc, insAt, mMeth_ap, dctAt, oDGet_ptr, oDIn_ptr, stPut_ptr, O_no, sTry_ap, oCatN_pl, bAppend_ptr, srcZ_lp, srcL_ptr, oSl_ptr, oIx_ptr, lstAt,  bCount_dot, bSplit_dot, bRpart_dot, bLstrip_dot, bJoin_dot, bJoin_none, oIx_lst, oIx_tup, oIx_scr, oIx_str, oSl_str, srcR1_int, srcR2_int, cLen_str, oAdd_str, oAdd_lst, oEq_int, oNe_int, oEq_str, oNe_str, mDef_ap, if_no, cLenD_ptr, e_look hz, hi, f_bodies h, h.d, s1, -oFld_ptr]
theorem e_take_s {z : Str} {t : Dt} {r : List Dt} {a : Int} (h : SAt μ p b nm kvs c) (hz : nameS z = true) (hv : valD kvs (.inr z) = some (.tup (t :: r))) (hpb : p ≠ b) :
    m_Store_take [.ptr p, .str z, .int a] μ = .ok t ((μ.set b (.dK (dropKD kvs (.inr z)))).set p (.ins 14 (stF nm b a))) := by
  unfold m_Store_take
  have ho2 : (μ.set b (.dK (dropKD kvs (.inr z))))[p]? = some (.ins 14 (stF nm b c)) := by
    rw [List.getElem?_set_ne (fun e => hpb e.symm)]
    exact h.o
  have s1 : ∀ δ, stFld ni "changed" δ (.int a) (.ptr p) (μ.set b (.dK (dropKD kvs (.inr z)))) = .nx δ ((μ.set b (.dK (dropKD kvs (.inr z)))).set p (.ins 14 (stF nm b a))) := fun δ => stFld_ptr ho2 ni_changed (show 3 < 1000 by decide)
  simp (disch := first | assumption | omega | (simp; done) | (simp; omega)) [oFld_ptr, oFld_exc, insAt, mMeth_ap, dctAt, oDGet_ptr, oDIn_ptr, stPut_ptr, O_no, sTry_ap, oCatN_pl, bAppend_ptr, srcZ_lp, srcL_ptr, oSl_ptr, oIx_ptr, lstAt,  bCount_dot, bSplit_dot, bRpart_dot, bLstrip_dot, bJoin_dot, bJoin_none, oIx_lst, oIx_tup, oIx_scr, oIx_str, oSl_str, srcR1_int, srcR2_int, cLen_str, oAdd_str, oAdd_lst, oEq_int, oNe_int, oEq_str, oNe_str, mDef_ap, if_no, cLenD_ptr, e_look hz, f_bodies h, h.d, hv, s1, sAsg, gStarM, -oFld_ptr]
end

/-! a new store -/
section
variable {μ : Mem} {p : Nat}
theorem e_init {z : Str} (hz : partS z = true) (hp : μ[p]? = some (.ins 14 [])) : m_Store___init__ [.ptr p, .str z] μ = .ok .non ((μ ++ [MO.dK []]).set p (.ins 14 (stF z μ.length 0))) := by
  unfold m_Store___init__
  have hl := (partS_len hz).2
  have hpart : m_is_part [.str z] μ = .ok (.bl (partS z)) μ := e_is_part (decide_eq_true (by omega))
  have hlt := (List.getElem?_eq_some_iff.mp hp).1
  have s1 : ∀ δ, stFld ni "name" δ (.str z) (.ptr p) μ = .nx δ (μ.set p (.ins 14 [("name", .str z)])) := fun δ => stFld_ptr hp ni_name (show 0 < 1000 by decide)
  have p2 : (μ.set p (.ins 14 [("name", .str z)]) ++ [MO.dK []])[p]? = some (.ins 14 [("name", .str z)]) := ext_at (set_at hp)
  have s2 : ∀ δ, stFld ni "bodies" δ (.ptr μ.length) (.ptr p) (μ.set p (.ins 14 [("name", .str z)]) ++ [MO.dK []]) = .nx δ ((μ.set p (.ins 14 [("name", .str z)]) ++ [MO.dK []]).set p (.ins 14 [("name", .str z), ("bodies", .ptr μ.length)])) := fun δ => stFld_ptr p2 ni_bodies (show 1 < 1000 by decide)
  have s3 : ∀ δ, stFld ni "changed" δ (.int 0) (.ptr p) ((μ.set p (.ins 14 [("name", .str z)]) ++ [MO.dK []]).set p (.ins 14 [("name", .str z), ("bodies", .ptr μ.length)])) = .nx δ (((μ.set p (.ins 14 [("name", .str z)]) ++ [MO.dK []]).set p (.ins 14 [("name", .str z), ("bodies", .ptr μ.length)])).set p (.ins 14 (stF z μ.length 0))) := fun δ => stFld_ptr (set_at p2) ni_changed (show 2 < 1000 by decide)
  have fin : ((μ.set p (.ins 14 [("name", .str z)]) ++ [MO.dK []]).set p (.ins 14 [("name", .str z), ("bodies", .ptr μ.length)])).set p (.ins 14 (stF z μ.length 0)) = (μ ++ [MO.dK []]).set p (.ins 14 (stF z μ.length 0)) := by
    rw [List.set_set, List.set_append_left _ _ (by simp; exact hlt), List.set_append_left _ _ hlt, List.set_set]
  rw [← fin]
  have hlen : (μ.set p (.ins 14 [("name", .str z)])).length = μ.length := by simp
  generalize hM1 : μ.set p (.ins 14 [("name", .str z)]) = M1 at *
  rw [← hlen] at s2 s3 ⊢
  generalize hM2 : (M1 ++ [MO.dK []]).set p (.ins 14 [("name", .str z), ("bodies", .ptr M1.length)]) = M2 at s2 s3 ⊢
  generalize hM3 : M2.set p (.ins 14 (stF z M1.length 0)) = M3 at s3 ⊢
  simp (disch := first | assumption | omega | (simp; done) | (simp; omega)) [oFld_ptr, oFld_exc, insAt, mMeth_ap, dctAt, oDGet_ptr, oDIn_ptr, stPut_ptr, O_no, sTry_ap, oCatN_pl, bAppend_ptr, srcZ_lp, srcL_ptr, oSl_ptr, oIx_ptr, lstAt,  bCount_dot, bSplit_dot, bRpart_dot, bLstrip_dot, bJoin_dot, bJoin_none, oIx_lst, oIx_tup, oIx_scr, oIx_str, oSl_str, srcR1_int, srcR2_int, cLen_str, oAdd_str, oAdd_lst, oEq_int, oNe_int, oEq_str, oNe_str, mDef_ap, if_no, cLenD_ptr, hpart, hz, s1, s2, s3]
end

/-! read_rows, read_body -/
section
variable {μ : Mem} {δ : DM.Env}
def rowsT (z : Str) : List Str := if z = Str.empty then [] else Txt.split z "\n"
def wordsT (z : Str) : List (List Str) := (rowsT z).map fun r => Txt.split r " "
def rowD (ws : List Str) : Dt := .tup (strsD ws)
theorem tl_nl : tl ("\n" : Str) = [10] := by decide +kernel
theorem tl_sp : tl (" " : Str) = [32] := by decide +kernel
def itemsD : Nat → List (List Str) → List Dt
  | _, [] => []
  | k, ws :: l => .tup [.int (k : Int), rowD ws] :: itemsD (k + 1) l
theorem items_at : ∀ (l : List (List Str)) (k i : Nat), (itemsD k l)[i]? = l[i]?.map fun ws => Dt.tup [.int ((k + i : Nat) : Int), rowD ws]
  | [], k, i => by simp [itemsD]
  | ws :: l, k, 0 => by simp [itemsD]
  | ws :: l, k, i + 1 => by
    rw [itemsD, List.getElem?_cons_succ, List.getElem?_cons_succ, items_at l (k + 1) i]
    congr 1
    funext x
    rw [show k + 1 + i = k + (i + 1) by omega]
theorem enum_items (l : List (List Str)) : enumD (l.map rowD) = itemsD 0 l := by
  apply List.ext_getElem?
  intro i
  rw [items_at]
  unfold enumD
  rw [List.getElem?_map, List.length_map]
  by_cases h : i < l.length
  · rw [List.getElem?_range h, List.getElem?_eq_getElem h]
    simp [List.getD_eq_getElem?_getD, h]
  · rw [List.getElem?_eq_none (by simpa using h), List.getElem?_eq_none (by omega)]
    rfl
theorem split_row_ne (r : Str) : ∃ w q, Txt.split r " " = w :: q := by
  cases e : Txt.split r " " with
  | nil =>
    rw [split_one tl_sp (by decide)] at e
    exact absurd (List.map_eq_nil_iff.mp e) (splitN_ne _ _)
  | cons w q => exact ⟨w, q, rfl⟩
def small (l : List (List Str)) : Prop := ∀ ws ∈ l, ws.length ≤ 100000 ∧ ∀ z ∈ ws, z.length ≤ 100000
def noShow (l : List (List Str)) : Prop := ∀ ws ∈ l, ws.head? ≠ some "show"
theorem e_row_of {ws : List Str} (hne : ws ≠ []) (h1 : ws.length ≤ 100000) (h2 : ∀ z ∈ ws, z.length ≤ 100000) (h3 : ws.head? ≠ some "show") : m_is_row [rowD ws] μ = .ok (.bl (rowS ws)) μ := by
  match ws, hne with
  | w :: r, _ =>
    exact e_is_row (by simp only [List.length_cons] at h1; omega) (fun z hz => h2 z (List.mem_cons_of_mem _ hz)) fun e => absurd (by rw [e]; rfl) h3
theorem rows_good : ∀ (l : List (List Str)) (k : Nat) (e0 e1 e2 e3 e4 e5 e6 : Option Dt), (∀ ws ∈ l, ws ≠ []) → small l → noShow l → (∀ ws ∈ l, rowS ws = true) →
    ∃ y4 y5, forL (gTupM 2 (gsCons (gSet 4) (gsCons (gSet 5) gsNil))) b_read_rows_1 none (itemsD k l) [e0, e1, e2, e3, e4, e5, e6] μ = .nx [e0, e1, e2, e3, y4, y5, e6] μ
  | [], k, e0, e1, e2, e3, e4, e5, e6, _, _, _, _ => ⟨e4, e5, by simp [itemsD, forL]⟩
  | ws :: l, k, e0, e1, e2, e3, e4, e5, e6, hne, hs, hn, hg => by
    have hr := e_row_of (μ := μ) (hne ws List.mem_cons_self) (hs ws List.mem_cons_self).1 (hs ws List.mem_cons_self).2 (hn ws List.mem_cons_self)
    rw [hg ws List.mem_cons_self] at hr
    obtain ⟨y4, y5, e⟩ := rows_good l (k + 1) e0 e1 e2 e3 (some (.int (k : Int))) (some (rowD ws)) e6 (fun x hx => hne x (List.mem_cons_of_mem _ hx)) (fun x hx => hs x (List.mem_cons_of_mem _ hx)) (fun x hx => hn x (List.mem_cons_of_mem _ hx)) (fun x hx => hg x (List.mem_cons_of_mem _ hx))
    refine ⟨y4, y5, ?_⟩
    have hb : b_read_rows_1 [e0, e1, e2, e3, some (.int (k : Int)), some (rowD ws), e6] μ = .nx [e0, e1, e2, e3, some (.int (k : Int)), some (rowD ws), e6] μ := by
      simp (disch := first | assumption | omega | (simp; done) | (simp; omega)) [oFld_ptr, oFld_exc, insAt, mMeth_ap, dctAt, oDGet_ptr, oDIn_ptr, stPut_ptr, O_no, sTry_ap, oCatN_pl, bAppend_ptr, srcZ_lp, srcL_ptr, oSl_ptr, oIx_ptr, lstAt,  bCount_dot, bSplit_dot, bRpart_dot, bLstrip_dot, bJoin_dot, bJoin_none, oIx_lst, oIx_tup, oIx_scr, oIx_str, oSl_str, srcR1_int, srcR2_int, cLen_str, oAdd_str, oAdd_lst, oEq_int, oNe_int, oEq_str, oNe_str, mDef_ap, if_no, cLenD_ptr, b_read_rows_1_ap, hr]
    simp [itemsD, forL, gTupM, gsCons, gsNil, hb, e]
theorem rows_bad : ∀ (l : List (List Str)) (b : List Str) (post : List Dt) (k : Nat) (e0 e1 e2 e3 e4 e5 e6 : Option Dt), (∀ ws ∈ l, ws ≠ []) → small l → noShow l → (∀ ws ∈ l, rowS ws = true) → m_is_row [rowD b] μ = .ok (.bl false) μ →
    ∃ y4 y5, forL (gTupM 2 (gsCons (gSet 4) (gsCons (gSet 5) gsNil))) b_read_rows_1 none (itemsD k l ++ .tup [.int ((k + l.length : Nat) : Int), rowD b] :: post) [e0, e1, e2, e3, e4, e5, e6] μ = .ex 5 ["trail", "row"] [.ktp [], .int ((k + l.length : Nat) : Int)] [e0, e1, e2, e3, y4, y5, e6] μ
  | [], b, post, k, e0, e1, e2, e3, e4, e5, e6, _, _, _, _, hb => by
    refine ⟨some (.int (k : Int)), some (rowD b), ?_⟩
    have hb : b_read_rows_1 [e0, e1, e2, e3, some (.int (k : Int)), some (rowD b), e6] μ = .ex 5 ["trail", "row"] [.ktp [], .int (k : Int)] [e0, e1, e2, e3, some (.int (k : Int)), some (rowD b), e6] μ := by
      simp (disch := first | assumption | omega | (simp; done) | (simp; omega)) [oFld_ptr, oFld_exc, insAt, mMeth_ap, dctAt, oDGet_ptr, oDIn_ptr, stPut_ptr, O_no, sTry_ap, oCatN_pl, bAppend_ptr, srcZ_lp, srcL_ptr, oSl_ptr, oIx_ptr, lstAt,  bCount_dot, bSplit_dot, bRpart_dot, bLstrip_dot, bJoin_dot, bJoin_none, oIx_lst, oIx_tup, oIx_scr, oIx_str, oSl_str, srcR1_int, srcR2_int, cLen_str, oAdd_str, oAdd_lst, oEq_int, oNe_int, oEq_str, oNe_str, mDef_ap, if_no, cLenD_ptr, b_read_rows_1_ap, hb]
    simp [itemsD, forL, gTupM, gsCons, gsNil, hb]
  | ws :: l, b, post, k, e0, e1, e2, e3, e4, e5, e6, hne, hs, hn, hg, hbad => by
    have hr := e_row_of (μ := μ) (hne ws List.mem_cons_self) (hs ws List.mem_cons_self).1 (hs ws List.mem_cons_self).2 (hn ws List.mem_cons_self)
    rw [hg ws List.mem_cons_self] at hr
    obtain ⟨y4, y5, e⟩ := rows_bad l b post (k + 1) e0 e1 e2 e3 (some (.int (k : Int))) (some (rowD ws)) e6 (fun x hx => hne x (List.mem_cons_of_mem _ hx)) (fun x hx => hs x (List.mem_cons_of_mem _ hx)) (fun x hx => hn x (List.mem_cons_of_mem _ hx)) (fun x hx => hg x (List.mem_cons_of_mem _ hx)) hbad
    refine ⟨y4, y5, ?_⟩
    have hb : b_read_rows_1 [e0, e1, e2, e3, some (.int (k : Int)), some (rowD ws), e6] μ = .nx [e0, e1, e2, e3, some (.int (k : Int)), some (rowD ws), e6] μ := by
      simp (disch := first | assumption | omega | (simp; done) | (simp; omega)) [oFld_ptr, oFld_exc, insAt, mMeth_ap, dctAt, oDGet_ptr, oDIn_ptr, stPut_ptr, O_no, sTry_ap, oCatN_pl, bAppend_ptr, srcZ_lp, srcL_ptr, oSl_ptr, oIx_ptr, lstAt,  bCount_dot, bSplit_dot, bRpart_dot, bLstrip_dot, bJoin_dot, bJoin_none, oIx_lst, oIx_tup, oIx_scr, oIx_str, oSl_str, srcR1_int, srcR2_int, cLen_str, oAdd_str, oAdd_lst, oEq_int, oNe_int, oEq_str, oNe_str, mDef_ap, if_no, cLenD_ptr, b_read_rows_1_ap, hr]
    have hk : k + (ws :: l).length = k + 1 + l.length := by simp only [List.length_cons]; omega
    rw [hk]
    simp only [itemsD, List.cons_append]
    have hgt : gTupM 2 (gsCons (gSet 4) (gsCons (gSet 5) gsNil)) (.tup [.int (k : Int), rowD ws]) [e0, e1, e2, e3, e4, e5, e6] μ = some [e0, e1, e2, e3, some (.int (k : Int)), some (rowD ws), e6] := by simp [gTupM, gsCons, gsNil]
    rw [forL, if_pos (by simp), hgt]
    simp only [hb, e]
theorem rows_lc {z : Str} {δ : DM.Env} (h0 : δ[0]? = some (some (.str z))) (hl : 6 < δ.length) (l : List Str) : lcL (gSet 6) (mTest (mOp oNe (mV 0) (mC (.str "")))) (mV 6) δ none (strsD l) μ = .ok (strsD (if z = Str.empty then [] else l)) μ := by
  have := lcL_pure (tg := gSet 6) (nt := mTest (mOp oNe (mV 0) (mC (.str "")))) (me := mV 6) (δ := δ) (ds := strsD l) (μ := μ) (fun _ => !(z == Str.empty)) id (fun d hd => by
    have he : (z == (Str.ofString "")) = (z == Str.empty) := rfl
    have h1 : (δ.set 6 (some d))[0]? = some (some (.str z)) := by rw [List.getElem?_set_ne (by decide)]; exact h0
    have h6 : (δ.set 6 (some d))[6]? = some (some d) := List.getElem?_set_self hl
    refine ⟨_, rfl, ?_, fun _ => ?_⟩
    · have hv : mV 0 (δ.set 6 (some d)) μ = .ok (.str z) μ := by
        unfold mV
        rw [h1]
      unfold mTest mOp
      simp only [hv]
      simp (disch := first | assumption | omega | (simp; done) | (simp; omega)) [oFld_ptr, oFld_exc, insAt, mMeth_ap, dctAt, oDGet_ptr, oDIn_ptr, stPut_ptr, O_no, sTry_ap, oCatN_pl, bAppend_ptr, srcZ_lp, srcL_ptr, oSl_ptr, oIx_ptr, lstAt,  bCount_dot, bSplit_dot, bRpart_dot, bLstrip_dot, bJoin_dot, bJoin_none, oIx_lst, oIx_tup, oIx_scr, oIx_str, oSl_str, srcR1_int, srcR2_int, cLen_str, oAdd_str, oAdd_lst, oEq_int, oNe_int, oEq_str, oNe_str, mDef_ap, if_no, cLenD_ptr, he]
    · simp (disch := first | assumption | omega | (simp; done) | (simp; omega)) [oFld_ptr, oFld_exc, insAt, mMeth_ap, dctAt, oDGet_ptr, oDIn_ptr, stPut_ptr, O_no, sTry_ap, oCatN_pl, bAppend_ptr, srcZ_lp, srcL_ptr, oSl_ptr, oIx_ptr, lstAt,  bCount_dot, bSplit_dot, bRpart_dot, bLstrip_dot, bJoin_dot, bJoin_none, oIx_lst, oIx_tup, oIx_scr, oIx_str, oSl_str, srcR1_int, srcR2_int, cLen_str, oAdd_str, oAdd_lst, oEq_int, oNe_int, oEq_str, oNe_str, mDef_ap, if_no, cLenD_ptr, h6])
  rw [this]
  by_cases c : z = Str.empty
  · rw [if_pos c, c]
    simp [strsD]
  · rw [if_neg c]
    have : (z == Str.empty) = false := by rw [beq_eq_false_iff_ne]; exact c
    simp [strsD, this]
theorem words_lc {δ : DM.Env} (hl : 6 < δ.length) {l : List Str} (h : ∀ r ∈ l, r.length ≤ 100000) : lcL (gSet 6) mYes (mCB cTup (mCons (mBM "str" bSplit (mV 6) (mCons (mC (.str " ")) mNil)) mNil)) δ none (strsD l) μ = .ok ((l.map fun r => Txt.split r " ").map rowD) μ := by
  have := lcL_map (tg := gSet 6) (me := mCB cTup (mCons (mBM "str" bSplit (mV 6) (mCons (mC (.str " ")) mNil)) mNil)) (δ := δ) (ds := strsD l) (μ := μ) (fun d => match d with | .str r => rowD (Txt.split r " ") | _ => .non) (fun d hd => by
    unfold strsD at hd
    obtain ⟨r, hr, rfl⟩ := List.mem_map.mp hd
    have h6 : (δ.set 6 (some (Dt.str r)))[6]? = some (some (.str r)) := List.getElem?_set_self hl
    have hs : bSplit (.str r) [.str (Str.ofString " ")] μ = .ok (.lst (strsD (Txt.split r " "))) μ := bSplit_str (by decide +kernel) (Nat.le_trans (h r hr) (by decide))
    have hc : cTup [.lst (strsD (Txt.split r " "))] μ = .ok (rowD (Txt.split r " ")) μ := rfl
    refine ⟨_, rfl, ?_⟩
    simp (disch := first | assumption | omega | (simp; done) | (simp; omega)) [oFld_ptr, oFld_exc, insAt, mMeth_ap, dctAt, oDGet_ptr, oDIn_ptr, stPut_ptr, O_no, sTry_ap, oCatN_pl, bAppend_ptr, srcZ_lp, srcL_ptr, oSl_ptr, oIx_ptr, lstAt,  bCount_dot, bSplit_dot, bRpart_dot, bLstrip_dot, bJoin_dot, bJoin_none, oIx_lst, oIx_tup, oIx_scr, oIx_str, oSl_str, srcR1_int, srcR2_int, cLen_str, oAdd_str, oAdd_lst, oEq_int, oNe_int, oEq_str, oNe_str, mDef_ap, if_no, cLenD_ptr, h6, hs, hc])
  rw [this]
  simp [strsD, Function.comp_def]
/-- the part ahead of the loop -/
theorem read_ahead {z : Str} {m : Int} (hz : z.length ≤ 90000) (rest : MS) (r : R Dt) (hm : ((rowsT z).length : Int) ≤ m)
    (hr : (rest [some (.str z), some (.int m), some (.lst (strsD (rowsT z))), some (.lst ((wordsT z).map rowD)), none, none, none] μ).out = r) :
    ((sSeq (sIf (mNot (mTest (mCB (cIsi tab) (mCons (mV 0) (mCons (mC (.ty "str")) mNil))))) (sRaiseX 5 ["trail", "row"] (mCons (mC .non) mNil) [.ktp []]) sNext)
    (sSeq (sAsg (mLc (miList (mBM "str" bSplit (mV 0) (mCons (mC (.str "\n")) mNil))) (gSet 6) (mTest (mOp oNe (mV 0) (mC (.str "")))) (mV 6) [6]) (gSet 2))
    (sSeq (sIf (mTest (mOp oGt (mCB cLen (mCons (mV 2) mNil)) (mV 1))) (sRaiseX 5 ["trail", "row"] (mCons (mC .non) mNil) [.ktp []]) sNext)
    (sSeq (sAsg (mLc (miList (mV 2)) (gSet 6) mYes (mCB cTup (mCons (mBM "str" bSplit (mV 6) (mCons (mC (.str " ")) mNil)) mNil)) [6]) (gSet 3)) rest)))) [some (.str z), some (.int m), none, none, none, none, none] μ).out = r := by
  rw [← hr]
  refine congrArg O.out ?_
  have hi := e_isstr (μ := μ) (d := .str z) (decide_eq_true (show z.length ≤ 100000 by omega))
  have hi : cIsi tab [.str z, .ty "str"] μ = .ok (.bl true) μ := hi
  have hsn : bSplit (.str z) [.str (Str.ofString "\n")] μ = .ok (.lst (strsD (Txt.split z "\n"))) μ := bSplit_str (by decide +kernel) (by omega)
  have hmany := split_many (x := z) tl_nl (by decide)
  have h1 := rows_lc (z := z) (δ := wipeD [some (.str z), some (.int m), none, none, none, none, none] [6]) (μ := μ) rfl (by simp [wipeD]) (Txt.split z "\n")
  have hlen : ∀ y ∈ rowsT z, y.length ≤ 100000 := by
    unfold rowsT
    split
    · intro y hy
      cases hy
    · intro y hy
      have := split_len tl_nl (by decide) hy
      omega
  have hmr : (rowsT z).length ≤ 100000 := by
    unfold rowsT
    split
    · decide
    · omega
  have h2 := words_lc (δ := wipeD [some (.str z), some (.int m), some (.lst (strsD (rowsT z))), none, none, none, none] [6]) (μ := μ) (by simp [wipeD]) hlen
  have h1 : lcL (gSet 6) (mTest (mOp oNe (mV 0) (mC (.str "")))) (mV 6) (wipeD [some (.str z), some (.int m), none, none, none, none, none] [6]) none (strsD (Txt.split z "\n")) μ = .ok (strsD (rowsT z)) μ := h1
  have hs1 : (strsD (Txt.split z "\n")).length ≤ 1000000 := by rw [strsD, List.length_map]; omega
  have hs2 : (strsD (rowsT z)).length ≤ 1000000 := by rw [strsD, List.length_map]; omega
  have hs3 : ¬ m < ((strsD (rowsT z)).length : Int) := by rw [strsD, List.length_map]; omega
  have hw : (wordsT z).map rowD = ((rowsT z).map fun r => Txt.split r " ").map rowD := rfl
  rw [hw]
  generalize ((rowsT z).map fun r => Txt.split r " ").map rowD = WW at h2 ⊢
  generalize strsD (rowsT z) = RR at h1 h2 hs2 hs3 ⊢
  generalize strsD (Txt.split z "\n") = SS at hsn h1 hs1
  refine seq_step (δ1 := [some (.str z), some (.int m), none, none, none, none, none]) (μ1 := μ) (by simp (disch := first | assumption | omega | (simp; done) | (simp; omega)) [oFld_ptr, oFld_exc, insAt, mMeth_ap, dctAt, oDGet_ptr, oDIn_ptr, stPut_ptr, O_no, sTry_ap, oCatN_pl, bAppend_ptr, srcZ_lp, srcL_ptr, oSl_ptr, oIx_ptr, lstAt,  bCount_dot, bSplit_dot, bRpart_dot, bLstrip_dot, bJoin_dot, bJoin_none, oIx_lst, oIx_tup, oIx_scr, oIx_str, oSl_str, srcR1_int, srcR2_int, cLen_str, oAdd_str, oAdd_lst, oEq_int, oNe_int, oEq_str, oNe_str, mDef_ap, if_no, cLenD_ptr, hi]) ?_
  refine seq_step (δ1 := [some (.str z), some (.int m), some (.lst RR), none, none, none, none]) (μ1 := μ) (by simp (disch := first | assumption | omega | (simp; done) | (simp; omega)) [oFld_ptr, oFld_exc, insAt, mMeth_ap, dctAt, oDGet_ptr, oDIn_ptr, stPut_ptr, O_no, sTry_ap, oCatN_pl, bAppend_ptr, srcZ_lp, srcL_ptr, oSl_ptr, oIx_ptr, lstAt,  bCount_dot, bSplit_dot, bRpart_dot, bLstrip_dot, bJoin_dot, bJoin_none, oIx_lst, oIx_tup, oIx_scr, oIx_str, oSl_str, srcR1_int, srcR2_int, cLen_str, oAdd_str, oAdd_lst, oEq_int, oNe_int, oEq_str, oNe_str, mDef_ap, if_no, cLenD_ptr, hsn, h1]) ?_
  refine seq_step (δ1 := [some (.str z), some (.int m), some (.lst RR), none, none, none, none]) (μ1 := μ) (by simp (disch := first | assumption | omega | (simp; done) | (simp; omega)) [oFld_ptr, oFld_exc, insAt, mMeth_ap, dctAt, oDGet_ptr, oDIn_ptr, stPut_ptr, O_no, sTry_ap, oCatN_pl, bAppend_ptr, srcZ_lp, srcL_ptr, oSl_ptr, oIx_ptr, lstAt,  bCount_dot, bSplit_dot, bRpart_dot, bLstrip_dot, bJoin_dot, bJoin_none, oIx_lst, oIx_tup, oIx_scr, oIx_str, oSl_str, srcR1_int, srcR2_int, cLen_str, oAdd_str, oAdd_lst, oEq_int, oNe_int, oEq_str, oNe_str, mDef_ap, if_no, cLenD_ptr, hs3]) ?_
  refine seq_step (δ1 := [some (.str z), some (.int m), some (.lst RR), some (.lst WW), none, none, none]) (μ1 := μ) (by simp (disch := first | assumption | omega | (simp; done) | (simp; omega)) [oFld_ptr, oFld_exc, insAt, mMeth_ap, dctAt, oDGet_ptr, oDIn_ptr, stPut_ptr, O_no, sTry_ap, oCatN_pl, bAppend_ptr, srcZ_lp, srcL_ptr, oSl_ptr, oIx_ptr, lstAt,  bCount_dot, bSplit_dot, bRpart_dot, bLstrip_dot, bJoin_dot, bJoin_none, oIx_lst, oIx_tup, oIx_scr, oIx_str, oSl_str, srcR1_int, srcR2_int, cLen_str, oAdd_str, oAdd_lst, oEq_int, oNe_int, oEq_str, oNe_str, mDef_ap, if_no, cLenD_ptr, h2]) rfl
theorem words_small {z : Str} (hz : z.length ≤ 90000) : small (wordsT z) ∧ ∀ ws ∈ wordsT z, ws ≠ [] := by
  have hr : ∀ y ∈ rowsT z, y.length ≤ z.length := by
    unfold rowsT
    split
    · intro y hy
      cases hy
    · exact fun y hy => split_len tl_nl (by decide) hy
  refine ⟨fun ws hws => ?_, fun ws hws => ?_⟩
  · obtain ⟨r, hr1, rfl⟩ := List.mem_map.mp hws
    have h1 := hr r hr1
    have h2 := split_many (x := r) tl_sp (by decide)
    exact ⟨by omega, fun w hw => by have := split_len tl_sp (by decide) hw; omega⟩
  · obtain ⟨r, hr1, rfl⟩ := List.mem_map.mp hws
    obtain ⟨w, q, e⟩ := split_row_ne r
    rw [e]
    exact List.cons_ne_nil _ _
theorem e_read_ok {z : Str} {m : Int} (hz : z.length ≤ 90000) (hm : ((rowsT z).length : Int) ≤ m) (hn : noShow (wordsT z)) (hg : ∀ ws ∈ wordsT z, rowS ws = true) : m_read_rows [.str z, .int m] μ = .ok (.lst ((wordsT z).map rowD)) μ := by
  unfold m_read_rows
  rw [mDef_ap (by rfl)]
  refine read_ahead hz _ _ hm ?_
  obtain ⟨hs, hne⟩ := words_small hz
  obtain ⟨y4, y5, e⟩ := rows_good (μ := μ) (wordsT z) 0 (some (.str z)) (some (.int m)) (some (.lst (strsD (rowsT z)))) (some (.lst ((wordsT z).map rowD))) none none none hne hs hn hg
  rw [← enum_items] at e
  generalize (wordsT z).map rowD = WW at e ⊢
  generalize strsD (rowsT z) = RR at e ⊢
  simp (disch := first | assumption | omega | (simp; done) | (simp; omega)) [oFld_ptr, oFld_exc, insAt, mMeth_ap, dctAt, oDGet_ptr, oDIn_ptr, stPut_ptr, O_no, sTry_ap, oCatN_pl, bAppend_ptr, srcZ_lp, srcL_ptr, oSl_ptr, oIx_ptr, lstAt,  bCount_dot, bSplit_dot, bRpart_dot, bLstrip_dot, bJoin_dot, bJoin_none, oIx_lst, oIx_tup, oIx_scr, oIx_str, oSl_str, srcR1_int, srcR2_int, cLen_str, oAdd_str, oAdd_lst, oEq_int, oNe_int, oEq_str, oNe_str, mDef_ap, if_no, cLenD_ptr, e]
theorem e_read_bad {z : Str} {m : Int} {pre post : List (List Str)} {b : List Str} (hz : z.length ≤ 90000) (hm : ((rowsT z).length : Int) ≤ m) (hw : wordsT z = pre ++ b :: post) (hn : noShow pre) (hb0 : b.head? ≠ some "show") (hg : ∀ ws ∈ pre, rowS ws = true) (hb : rowS b = false) :
    m_read_rows [.str z, .int m] μ = .ex 5 ["trail", "row"] [.ktp [], .int (pre.length : Int)] μ := by
  unfold m_read_rows
  rw [mDef_ap (by rfl)]
  refine read_ahead hz _ _ hm ?_
  obtain ⟨hs, hne⟩ := words_small hz
  rw [hw] at hs hne
  have hbr := e_row_of (μ := μ) (hne b (by simp)) (hs b (by simp)).1 (hs b (by simp)).2 hb0
  rw [hb] at hbr
  obtain ⟨y4, y5, e⟩ := rows_bad (μ := μ) pre b ((itemsD (pre.length + 1) post)) 0 (some (.str z)) (some (.int m)) (some (.lst (strsD (rowsT z)))) (some (.lst ((wordsT z).map rowD))) none none none (fun x hx => hne x (by simp [hx])) (fun x hx => hs x (by simp [hx])) hn hg hbr
  have hit : ∀ (l : List (List Str)) (k : Nat), itemsD k (l ++ b :: post) = itemsD k l ++ .tup [.int ((k + l.length : Nat) : Int), rowD b] :: itemsD (k + l.length + 1) post := by
    intro l
    induction l with
    | nil => intro k; rfl
    | cons x l ih =>
      intro k
      rw [List.cons_append, itemsD, itemsD, List.cons_append, ih (k + 1)]
      rw [show k + 1 + l.length = k + (x :: l).length by simp only [List.length_cons]; omega]
  have e2 := hit pre 0
  rw [Nat.zero_add] at e2
  rw [Nat.zero_add] at e
  rw [← e2, ← hw, ← enum_items] at e
  generalize (wordsT z).map rowD = WW at e ⊢
  generalize strsD (rowsT z) = RR at e ⊢
  simp (disch := first | assumption | omega | (simp; done) | (simp; omega)) [oFld_ptr, oFld_exc, insAt, mMeth_ap, dctAt, oDGet_ptr, oDIn_ptr, stPut_ptr, O_no, sTry_ap, oCatN_pl, bAppend_ptr, srcZ_lp, srcL_ptr, oSl_ptr, oIx_ptr, lstAt,  bCount_dot, bSplit_dot, bRpart_dot, bLstrip_dot, bJoin_dot, bJoin_none, oIx_lst, oIx_tup, oIx_scr, oIx_str, oSl_str, srcR1_int, srcR2_int, cLen_str, oAdd_str, oAdd_lst, oEq_int, oNe_int, oEq_str, oNe_str, mDef_ap, if_no, cLenD_ptr, e]
theorem e_body_ok {z : Str} (hz : z.length ≤ 90000) (hm : (rowsT z).length ≤ 12) (hn : noShow (wordsT z)) (hg : ∀ ws ∈ wordsT z, rowS ws = true) : m_read_body [.str z] μ = .ok (.lst ((wordsT z).map rowD)) μ := by
  unfold m_read_body
  have e := e_read_ok (μ := μ) (m := 12) hz (by omega) hn hg
  generalize (wordsT z).map rowD = WW at e ⊢
  simp (disch := first | assumption | omega | (simp; done) | (simp; omega)) [oFld_ptr, oFld_exc, insAt, mMeth_ap, dctAt, oDGet_ptr, oDIn_ptr, stPut_ptr, O_no, sTry_ap, oCatN_pl, bAppend_ptr, srcZ_lp, srcL_ptr, oSl_ptr, oIx_ptr, lstAt,  bCount_dot, bSplit_dot, bRpart_dot, bLstrip_dot, bJoin_dot, bJoin_none, oIx_lst, oIx_tup, oIx_scr, oIx_str, oSl_str, srcR1_int, srcR2_int, cLen_str, oAdd_str, oAdd_lst, oEq_int, oNe_int, oEq_str, oNe_str, mDef_ap, if_no, cLenD_ptr, e]
theorem e_body_bad {z : Str} {pre post : List (List Str)} {b : List Str} (hz : z.length ≤ 90000) (hm : (rowsT z).length ≤ 12) (hw : wordsT z = pre ++ b :: post) (hn : noShow pre) (hb0 : b.head? ≠ some "show") (hg : ∀ ws ∈ pre, rowS ws = true) (hb : rowS b = false) :
    m_read_body [.str z] μ = .ex 5 ["trail", "row"] [.ktp [], .int (pre.length : Int)] μ := by
  unfold m_read_body
  have e := e_read_bad (μ := μ) (m := 12) hz (by omega) hw hn hb0 hg hb
  simp (disch := first | assumption | omega | (simp; done) | (simp; omega)) [oFld_ptr, oFld_exc, insAt, mMeth_ap, dctAt, oDGet_ptr, oDIn_ptr, stPut_ptr, O_no, sTry_ap, oCatN_pl, bAppend_ptr, srcZ_lp, srcL_ptr, oSl_ptr, oIx_ptr, lstAt,  bCount_dot, bSplit_dot, bRpart_dot, bLstrip_dot, bJoin_dot, bJoin_none, oIx_lst, oIx_tup, oIx_scr, oIx_str, oSl_str, srcR1_int, srcR2_int, cLen_str, oAdd_str, oAdd_lst, oEq_int, oNe_int, oEq_str, oNe_str, mDef_ap, if_no, cLenD_ptr, e]
end

/-! forms.py -/
def foF (chk : Str) (r : Nat) (made kept : Int) : List (Str × Dt) := [("check", .str chk), ("read", .ptr r), ("made", .int made), ("kept", .int kept)]
structure FAt (μ : Mem) (f r : Nat) (chk : Str) (kvs : List (List Key × Dt)) (made kept : Int) : Prop where
  o : μ[f]? = some (.ins 16 (foF chk r made kept))
  d : μ[r]? = some (.dT kvs)
theorem FAt.app {μ ν : Mem} {f r : Nat} {chk : Str} {kvs : List (List Key × Dt)} {made kept : Int} (h : FAt μ f r chk kvs made kept) : FAt (μ ++ ν) f r chk kvs made kept := ⟨ext_at h.o, ext_at h.d⟩
theorem FAt.set {μ : Mem} {f r P : Nat} {chk : Str} {kvs : List (List Key × Dt)} {made kept : Int} {o : MO} (h : FAt μ f r chk kvs made kept) (h1 : P ≠ f) (h2 : P ≠ r) : FAt (μ.set P o) f r chk kvs made kept := ⟨by rw [List.getElem?_set_ne h1]; exact h.o, by rw [List.getElem?_set_ne h2]; exact h.d⟩
theorem nf_check : ni 16 "check" = true := by decide +kernel
theorem nf_read : ni 16 "read" = true := by decide +kernel
theorem nf_made : ni 16 "made" = true := by decide +kernel
theorem nf_kept : ni 16 "kept" = true := by decide +kernel
section
variable {μ : Mem} {f r : Nat} {chk : Str} {kvs : List (List Key × Dt)} {made kept : Int}
theorem ff_check (h : FAt μ f r chk kvs made kept) : oFld nx ni "check" (.ptr f) μ = .ok (.str chk) μ := by
  rw [oFld_ptr]
  have e : List.lookup (Str.ofString "check") (foF chk r made kept) = some (.str chk) := rfl
  simp [insAt, h.o, nf_check, e]
theorem ff_read (h : FAt μ f r chk kvs made kept) : oFld nx ni "read" (.ptr f) μ = .ok (.ptr r) μ := by
  rw [oFld_ptr]
  have e : List.lookup (Str.ofString "read") (foF chk r made kept) = some (.ptr r) := rfl
  simp [insAt, h.o, nf_read, e]
theorem ff_made (h : FAt μ f r chk kvs made kept) : oFld nx ni "made" (.ptr f) μ = .ok (.int made) μ := by
  rw [oFld_ptr]
  have e : List.lookup (Str.ofString "made") (foF chk r made kept) = some (.int made) := rfl
  simp [insAt, h.o, nf_made, e]
theorem ff_kept (h : FAt μ f r chk kvs made kept) : oFld nx ni "kept" (.ptr f) μ = .ok (.int kept) μ := by
  rw [oFld_ptr]
  have e : List.lookup (Str.ofString "kept") (foF chk r made kept) = some (.int kept) := rfl
  simp [insAt, h.o, nf_kept, e]
theorem lkf_form : List.lookup (Str.ofString "form") (foF chk r made kept) = none := rfl
theorem lkf_holds : List.lookup (Str.ofString "holds") (foF chk r made kept) = none := rfl
theorem lkf_stale : List.lookup (Str.ofString "stale") (foF chk r made kept) = none := rfl
theorem lkf_drop : List.lookup (Str.ofString "drop") (foF chk r made kept) = none := rfl
theorem inT_at {neg k : Bool} {d e : Dt} {q : PyData} {ds : List PyData} (h1 : toPM μ 8 d = some q) (h2 : toPM μ 8 e = some (.tuple ds)) (h3 : SeqAt.shaped q = true ∧ SeqAt.shaped (.tuple ds) = true) (h4 : (neg ^^ ds.any fun z => PyData.eqv z q) = k) : oInT neg d e μ = .ok (.bl k) μ := by
  unfold oInT
  rw [h1, h2, ← h4]
  exact if_pos h3
theorem e_check {d : Dt} (h : oInT true d (.ktp [.str "stamp", .str "sum"]) μ = .ok (.bl false) μ) : m_look_at_check [d] μ = .ok .non μ := by
  unfold m_look_at_check
  simp (disch := first | assumption | omega | (simp; done) | (simp; omega)) [oFld_ptr, oFld_exc, insAt, mMeth_ap, dctAt, oDGet_ptr, oDIn_ptr, stPut_ptr, O_no, sTry_ap, oCatN_pl, bAppend_ptr, srcZ_lp, srcL_ptr, oSl_ptr, oIx_ptr, lstAt,  bCount_dot, bSplit_dot, bRpart_dot, bLstrip_dot, bJoin_dot, bJoin_none, oIx_lst, oIx_tup, oIx_scr, oIx_str, oSl_str, srcR1_int, srcR2_int, cLen_str, oAdd_str, oAdd_lst, oEq_int, oNe_int, oEq_str, oNe_str, mDef_ap, if_no, cLenD_ptr, h]
theorem e_checkN {d : Dt} (h : oInT true d (.ktp [.str "stamp", .str "sum"]) μ = .ok (.bl true) μ) : m_look_at_check [d] μ = .ex 4 [] [] μ := by
  unfold m_look_at_check
  simp (disch := first | assumption | omega | (simp; done) | (simp; omega)) [oFld_ptr, oFld_exc, insAt, mMeth_ap, dctAt, oDGet_ptr, oDIn_ptr, stPut_ptr, O_no, sTry_ap, oCatN_pl, bAppend_ptr, srcZ_lp, srcL_ptr, oSl_ptr, oIx_ptr, lstAt,  bCount_dot, bSplit_dot, bRpart_dot, bLstrip_dot, bJoin_dot, bJoin_none, oIx_lst, oIx_tup, oIx_scr, oIx_str, oSl_str, srcR1_int, srcR2_int, cLen_str, oAdd_str, oAdd_lst, oEq_int, oNe_int, oEq_str, oNe_str, mDef_ap, if_no, cLenD_ptr, h]
theorem good_check (h : chk = "stamp" ∨ chk = "sum") : oInT true (.str chk) (.ktp [.str "stamp", .str "sum"]) μ = .ok (.bl false) μ := by
  rcases h with rfl | rfl <;> exact inT_at rfl rfl (by decide +kernel) (by decide +kernel)
theorem e_finit {f : Nat} (h : chk = "stamp" ∨ chk = "sum") (hp : μ[f]? = some (.ins 16 [])) : m_Forms___init__ [.ptr f, .str chk] μ = .ok .non ((μ ++ [MO.dT []]).set f (.ins 16 (foF chk μ.length 0 0))) := by
  unfold m_Forms___init__
  have hc := e_check (good_check (μ := μ) h)
  have hlt := (List.getElem?_eq_some_iff.mp hp).1
  have s1 : ∀ δ, stFld ni "check" δ (.str chk) (.ptr f) μ = .nx δ (μ.set f (.ins 16 [("check", .str chk)])) := fun δ => stFld_ptr hp nf_check (show 0 < 1000 by decide)
  have p2 : (μ.set f (.ins 16 [("check", .str chk)]) ++ [MO.dT []])[f]? = some (.ins 16 [("check", .str chk)]) := ext_at (set_at hp)
  have s2 : ∀ δ, stFld ni "read" δ (.ptr μ.length) (.ptr f) (μ.set f (.ins 16 [("check", .str chk)]) ++ [MO.dT []]) = .nx δ ((μ.set f (.ins 16 [("check", .str chk)]) ++ [MO.dT []]).set f (.ins 16 [("check", .str chk), ("read", .ptr μ.length)])) := fun δ => stFld_ptr p2 nf_read (show 1 < 1000 by decide)
  have s3 : ∀ δ, stFld ni "made" δ (.int 0) (.ptr f) ((μ.set f (.ins 16 [("check", .str chk)]) ++ [MO.dT []]).set f (.ins 16 [("check", .str chk), ("read", .ptr μ.length)])) = .nx δ (((μ.set f (.ins 16 [("check", .str chk)]) ++ [MO.dT []]).set f (.ins 16 [("check", .str chk), ("read", .ptr μ.length)])).set f (.ins 16 [("check", .str chk), ("read", .ptr μ.length), ("made", .int 0)])) := fun δ => stFld_ptr (set_at p2) nf_made (show 2 < 1000 by decide)
  have s4 : ∀ δ, stFld ni "kept" δ (.int 0) (.ptr f) (((μ.set f (.ins 16 [("check", .str chk)]) ++ [MO.dT []]).set f (.ins 16 [("check", .str chk), ("read", .ptr μ.length)])).set f (.ins 16 [("check", .str chk), ("read", .ptr μ.length), ("made", .int 0)])) = .nx δ ((((μ.set f (.ins 16 [("check", .str chk)]) ++ [MO.dT []]).set f (.ins 16 [("check", .str chk), ("read", .ptr μ.length)])).set f (.ins 16 [("check", .str chk), ("read", .ptr μ.length), ("made", .int 0)])).set f (.ins 16 (foF chk μ.length 0 0))) := fun δ => stFld_ptr (set_at (set_at p2)) nf_kept (show 3 < 1000 by decide)
  have fin : (((μ.set f (.ins 16 [("check", .str chk)]) ++ [MO.dT []]).set f (.ins 16 [("check", .str chk), ("read", .ptr μ.length)])).set f (.ins 16 [("check", .str chk), ("read", .ptr μ.length), ("made", .int 0)])).set f (.ins 16 (foF chk μ.length 0 0)) = (μ ++ [MO.dT []]).set f (.ins 16 (foF chk μ.length 0 0)) := by
    rw [List.set_set, List.set_set, List.set_append_left _ _ (by simp; exact hlt), List.set_append_left _ _ hlt, List.set_set]
  rw [← fin]
  have hlen : (μ.set f (.ins 16 [("check", .str chk)])).length = μ.length := by simp
  generalize hM1 : μ.set f (.ins 16 [("check", .str chk)]) = M1 at *
  rw [← hlen] at s2 s3 s4 ⊢
  generalize hM2 : (M1 ++ [MO.dT []]).set f (.ins 16 [("check", .str chk), ("read", .ptr M1.length)]) = M2 at s2 s3 s4 ⊢
  generalize hM3 : M2.set f (.ins 16 [("check", .str chk), ("read", .ptr M1.length), ("made", .int 0)]) = M3 at s3 s4 ⊢
  generalize hM4 : M3.set f (.ins 16 (foF chk M1.length 0 0)) = M4 at s4 ⊢
  simp (disch := first | assumption | omega | (simp; done) | (simp; omega)) [oFld_ptr, oFld_exc, insAt, mMeth_ap, dctAt, oDGet_ptr, oDIn_ptr, stPut_ptr, O_no, sTry_ap, oCatN_pl, bAppend_ptr, srcZ_lp, srcL_ptr, oSl_ptr, oIx_ptr, lstAt,  bCount_dot, bSplit_dot, bRpart_dot, bLstrip_dot, bJoin_dot, bJoin_none, oIx_lst, oIx_tup, oIx_scr, oIx_str, oSl_str, srcR1_int, srcR2_int, cLen_str, oAdd_str, oAdd_lst, oEq_int, oNe_int, oEq_str, oNe_str, mDef_ap, if_no, cLenD_ptr, hc, s1, s2, s3, s4, mTNew]
end
section
variable {μ : Mem} {f r p b : Nat} {chk nm z : Str} {kvs : List (List Key × Dt)} {bvs : List (Key × Dt)} {made kept c : Int}
def kyT (nm z : Str) : List Key := [Sum.inr nm, Sum.inr z]
theorem key_of {nm z : Str} : keyT (.tup [.str nm, .str z]) = some (kyT nm z) := rfl
theorem asQ_at (h : μ[r]? = some (.dT kvs)) : asQ μ (.ptr r) = some kvs := by simp [asQ, h]
theorem asQw_at (h : μ[r]? = some (.dT kvs)) : asQw μ (.ptr r) = some kvs := by simp [asQw, h]
theorem e_holds0 (h : FAt μ f r chk kvs made kept) (s : SAt μ p b nm bvs c) (hz : nameS z = true) (hv : valT kvs (kyT nm z) = none) : m_Forms_holds [.ptr f, .ptr p, .str z] μ = .ok (.bl false) μ := by
  unfold m_Forms_holds
  have e1 := e_entry s hz
  have g : asQ μ (.ptr r) = some kvs := asQ_at h.d
  have fr := ff_read h
  have fn := f_name s
  have so := s.o
  simp (disch := first | assumption | omega | (simp; done) | (simp; omega)) [oFld_ptr, oFld_exc, insAt, mMeth_ap, dctAt, oDGet_ptr, oDIn_ptr, stPut_ptr, O_no, sTry_ap, oCatN_pl, bAppend_ptr, srcZ_lp, srcL_ptr, oSl_ptr, oIx_ptr, lstAt,  bCount_dot, bSplit_dot, bRpart_dot, bLstrip_dot, bJoin_dot, bJoin_none, oIx_lst, oIx_tup, oIx_scr, oIx_str, oSl_str, srcR1_int, srcR2_int, cLen_str, oAdd_str, oAdd_lst, oEq_int, oNe_int, oEq_str, oNe_str, mDef_ap, if_no, cLenD_ptr, fr, fn, so, lkm_entry, e1, mTGet2, g, key_of, hv, DM.isNon, -oFld_ptr]
theorem e_formF (h : FAt μ f r chk kvs made kept) (s : SAt μ p b nm bvs c) (hz : nameS z = true) (hv : valD bvs (.inr z) = none) : m_Forms_form [.ptr f, .ptr p, .str z] μ = .ex 6 ["trail", "name"] [.ktp [], .str z] μ := by
  unfold m_Forms_form
  have e1 := e_entry s hz
  rw [hv] at e1
  have so := s.o
  simp (disch := first | assumption | omega | (simp; done) | (simp; omega)) [oFld_ptr, oFld_exc, insAt, mMeth_ap, dctAt, oDGet_ptr, oDIn_ptr, stPut_ptr, O_no, sTry_ap, oCatN_pl, bAppend_ptr, srcZ_lp, srcL_ptr, oSl_ptr, oIx_ptr, lstAt,  bCount_dot, bSplit_dot, bRpart_dot, bLstrip_dot, bJoin_dot, bJoin_none, oIx_lst, oIx_tup, oIx_scr, oIx_str, oSl_str, srcR1_int, srcR2_int, cLen_str, oAdd_str, oAdd_lst, oEq_int, oNe_int, oEq_str, oNe_str, mDef_ap, if_no, cLenD_ptr, so, lkm_entry, e1, DM.isNon, -oFld_ptr]
theorem e_formB {t : Str} {k : Bool} {a : Int} {row : Dt} (h : FAt μ f r chk kvs made kept) (s : SAt μ p b nm bvs c) (hz : nameS z = true) (hv : valD bvs (.inr z) = some (.tup [.str t, .bl k, .int a])) (hk : valT kvs (kyT nm z) = none)
    (hb : m_read_body [.str t] μ = .ex 5 ["trail", "row"] [.ktp [], row] μ) : m_Forms_form [.ptr f, .ptr p, .str z] μ = .ex 5 ["trail", "row"] [.ktp [], row] μ := by
  unfold m_Forms_form
  have e1 := e_entry s hz
  rw [hv] at e1
  have e2 := e_holds0 h s hz hk
  have so := s.o
  have fo := h.o
  have a0 : L2.atI [Dt.str t, .bl k, .int a] 0 = some (.str t) := rfl
  simp (disch := first | assumption | omega | (simp; done) | (simp; omega)) [oFld_ptr, oFld_exc, insAt, mMeth_ap, dctAt, oDGet_ptr, oDIn_ptr, stPut_ptr, O_no, sTry_ap, oCatN_pl, bAppend_ptr, srcZ_lp, srcL_ptr, oSl_ptr, oIx_ptr, lstAt,  bCount_dot, bSplit_dot, bRpart_dot, bLstrip_dot, bJoin_dot, bJoin_none, oIx_lst, oIx_tup, oIx_scr, oIx_str, oSl_str, srcR1_int, srcR2_int, cLen_str, oAdd_str, oAdd_lst, oEq_int, oNe_int, oEq_str, oNe_str, mDef_ap, if_no, cLenD_ptr, so, fo, lkm_entry, lkf_holds, e1, e2, hb, a0, DM.isNon, -oFld_ptr]
end

/-! law k15 -/
theorem SAt.app {μ ν : Mem} {p b : Nat} {nm : Str} {kvs : List (Key × Dt)} {c : Int} (h : SAt μ p b nm kvs c) : SAt (μ ++ ν) p b nm kvs c := ⟨ext_at h.o, ext_at h.d⟩
theorem SAt.set {μ : Mem} {p b P : Nat} {nm : Str} {kvs : List (Key × Dt)} {c : Int} {o : MO} (h : SAt μ p b nm kvs c) (h1 : P ≠ p) (h2 : P ≠ b) : SAt (μ.set P o) p b nm kvs c := ⟨by rw [List.getElem?_set_ne h1]; exact h.o, by rw [List.getElem?_set_ne h2]; exact h.d⟩
def textsD : List Str := ["", "set a 1", "set a 2", "set b 1", "note 7", "set", "x y", "load a",
  "set a 1\nnote a",
  "fail now",
  "set a 12"]
def textsL : List Str := textsD ++ (["set b 2", "note 12", "note 34", "load ab", "drop cd",
  "set b 2\nnote 1", "note 34\nnote 1",
  "drop cd\nnote 1"] : List Str)

def okTx (t : Str) : Bool := decide (t.length ≤ 90000) && (decide ((rowsT t).length ≤ 12) && (wordsT t).all fun ws => decide (ws.head? ≠ some "show"))
theorem texts_ok : ∀ t ∈ textsL, okTx t = true := by decide +kernel
def rowsD (t : Str) : List Dt := (wordsT t).map rowD
theorem first_bad {l : List (List Str)} (h : l.all rowS = false) : ∃ pre b post, l = pre ++ b :: post ∧ (∀ ws ∈ pre, rowS ws = true) ∧ rowS b = false := by
  induction l with
  | nil => cases h
  | cons x r ih =>
    cases hx : rowS x with
    | false => exact ⟨[], x, r, rfl, fun ws hw => (nomatch hw), hx⟩
    | true =>
      rw [List.all_cons, hx, Bool.true_and] at h
      obtain ⟨pre, b, post, rfl, h1, h2⟩ := ih h
      refine ⟨x :: pre, b, post, rfl, fun ws hw => ?_, h2⟩
      rcases List.mem_cons.mp hw with rfl | hw
      · exact hx
      · exact h1 ws hw
/-- whether a text's body can be read -/
def goodT (t : Str) : Bool := (wordsT t).all rowS
theorem body_yes {μ : Mem} {t : Str} (ht : t ∈ textsL) (hg : goodT t = true) : m_read_body [.str t] μ = .ok (.lst (rowsD t)) μ := by
  have h := texts_ok t ht
  unfold okTx at h
  simp only [Bool.and_eq_true, decide_eq_true_eq, List.all_eq_true] at h
  exact e_body_ok h.1 h.2.1 h.2.2 (List.all_eq_true.mp hg)
theorem body_no {t : Str} (ht : t ∈ textsL) (hg : goodT t = false) : ∃ n : Int, ∀ μ, m_read_body [.str t] μ = .ex 5 ["trail", "row"] [.ktp [], .int n] μ := by
  have h := texts_ok t ht
  unfold okTx at h
  simp only [Bool.and_eq_true, decide_eq_true_eq, List.all_eq_true] at h
  obtain ⟨pre, b, post, e, h1, h2⟩ := first_bad hg
  have hs := h.2.2
  rw [e] at hs
  exact ⟨_, fun μ => e_body_bad h.1 h.2.1 e (fun ws hw => hs ws (List.mem_append_left _ hw)) (hs b (List.mem_append_right _ List.mem_cons_self)) h1 h2⟩
/-! what lies in stores -/
def tpD (t : Str) (k : Bool) (a : Int) : Dt := .tup [.str t, .bl k, .int a]
theorem mem_put {kvs : List (Key × Dt)} {k : Key} {v : Dt} {x : Key × Dt} (h : x ∈ putKD kvs k v) : x ∈ kvs ∨ x = (k, v) := by
  unfold putKD at h
  split at h
  · obtain ⟨y, hy, rfl⟩ := List.mem_map.mp h
    split
    · rename_i e
      exact .inr (by rw [e])
    · exact .inl hy
  · rcases List.mem_append.mp h with h | h
    · exact .inl h
    · exact .inr (List.mem_singleton.mp h)
theorem val_mem {kvs : List (Key × Dt)} {k : Key} {d : Dt} (h : valD kvs k = some d) : (k, d) ∈ kvs := by
  unfold valD at h
  obtain ⟨x, hx, rfl⟩ := Option.map_eq_some_iff.mp h
  have e : x.1 = k := by simpa using List.find?_some hx
  have := List.mem_of_find?_eq_some hx
  subst e
  exact this
def GoodK (kvs : List (Key × Dt)) : Prop := ∀ x ∈ kvs, ∃ s t k a, x = (Sum.inr s, tpD t k a) ∧ t ∈ textsL
theorem GoodK.put {kvs : List (Key × Dt)} {z t : Str} {k : Bool} {a : Int} (h : GoodK kvs) (ht : t ∈ textsL) : GoodK (putKD kvs (.inr z) (tpD t k a)) := fun x hx => by
  rcases mem_put hx with hx | rfl
  · exact h x hx
  · exact ⟨z, t, k, a, rfl, ht⟩
theorem GoodK.drop {kvs : List (Key × Dt)} {k : Key} (h : GoodK kvs) : GoodK (dropKD kvs k) := fun x hx => h x (List.mem_filter.mp hx).1
theorem GoodK.val {kvs : List (Key × Dt)} {k : Key} {d : Dt} (h : GoodK kvs) (hv : valD kvs k = some d) : ∃ t j a, d = tpD t j a ∧ t ∈ textsL := by
  obtain ⟨s, t, j, a, e, ht⟩ := h _ (val_mem hv)
  exact ⟨t, j, a, congrArg (·.2) e, ht⟩
/-! forms that are kept -/
structure Ent where
  nm : Str
  z : Str
  t : Str
  a : Int
  ls : List (List Str)
def Ent.rows (e : Ent) : List Dt := e.ls.map rowD
def mkE (f : Ent → Dt) (e : Ent) : List Key × Dt := (kyT e.nm e.z, f e)
def fF (e : Ent) : Dt := .tup [.str e.t, .int e.a, .tup e.rows]
def same (nm z : Str) (e : Ent) : Bool := decide (e.nm = nm ∧ e.z = z)
def findE (L : List Ent) (nm z : Str) : Option Ent := L.find? (same nm z)
def putE (L : List Ent) (e : Ent) : List Ent := if L.any (same e.nm e.z) = true then L.map (fun x => if same e.nm e.z x = true then e else x) else L ++ [e]
def dropE (L : List Ent) (nm z : Str) : List Ent := L.filter fun e => !same nm z e
theorem ky_iff {n m z y : Str} : kyT n z = kyT m y ↔ n = m ∧ z = y := by
  unfold kyT
  constructor
  · intro h
    injection h with h1 h2
    injection h1 with h1
    injection h2 with h2 _
    injection h2 with h2
    exact ⟨h1, h2⟩
  · rintro ⟨rfl, rfl⟩
    rfl
theorem same_key {e : Ent} {nm z : Str} : decide (kyT e.nm e.z = kyT nm z) = same nm z e := decide_eq_decide.mpr ky_iff
section
variable {f : Ent → Dt} {L : List Ent} {nm z : Str}
theorem val_mk : valT (L.map (mkE f)) (kyT nm z) = (findE L nm z).map f := by
  unfold valT findE
  induction L with
  | nil => rfl
  | cons e L ih =>
    rw [List.map_cons, List.find?_cons, List.find?_cons]
    have : decide ((mkE f e).1 = kyT nm z) = same nm z e := same_key
    rw [this]
    cases same nm z e with
    | true => rfl
    | false => exact ih
theorem put_mk {e : Ent} : putT (L.map (mkE f)) (kyT e.nm e.z) (f e) = (putE L e).map (mkE f) := by
  unfold putT putE
  have h1 : ((L.map (mkE f)).any fun kv => decide (kv.1 = kyT e.nm e.z)) = L.any (same e.nm e.z) := by
    rw [List.any_map]
    congr 1
    funext x
    exact same_key
  rw [h1]
  split
  · rw [List.map_map, List.map_map]
    refine List.map_congr_left fun x _ => ?_
    show (if (mkE f x).1 = kyT e.nm e.z then ((mkE f x).1, f e) else mkE f x) = mkE f (if same e.nm e.z x = true then e else x)
    have h2 : decide ((mkE f x).1 = kyT e.nm e.z) = same e.nm e.z x := same_key
    by_cases h : (mkE f x).1 = kyT e.nm e.z
    · rw [if_pos h, h]
      rw [decide_eq_true h] at h2
      rw [if_pos h2.symm]
      rfl
    · rw [if_neg h]
      rw [decide_eq_false h] at h2
      rw [if_neg (by rw [← h2]; simp)]
  · rw [List.map_append]
    rfl
theorem drop_mk : dropT (L.map (mkE f)) (kyT nm z) = (dropE L nm z).map (mkE f) := by
  unfold dropT dropE
  rw [List.filter_map]
  congr 1
  refine List.filter_congr fun x _ => ?_
  show decide (kyT x.nm x.z ≠ kyT nm z) = !same nm z x
  rw [← same_key]
  exact decide_not
theorem find_put {e : Ent} : findE (putE L e) e.nm e.z = some e := by
  unfold findE putE
  have hs : same e.nm e.z e = true := decide_eq_true ⟨rfl, rfl⟩
  split
  · rename_i h
    induction L with
    | nil => cases h
    | cons x L ih =>
      rw [List.map_cons, List.find?_cons]
      cases hx : same e.nm e.z x with
      | true => simp only [if_true, hs]
      | false =>
        rw [List.any_cons, hx, Bool.false_or] at h
        simp only [Bool.false_eq_true, if_false, hx]
        exact ih h
  · rename_i h
    rw [List.find?_append, List.find?_eq_none.mpr fun x hx hh => h (List.any_eq_true.mpr ⟨x, hx, hh⟩)]
    simp only [Option.none_or, List.find?_cons, hs]
theorem find_drop : findE (dropE L nm z) nm z = none := by
  unfold findE dropE
  refine List.find?_eq_none.mpr fun x hx => ?_
  have := (List.mem_filter.mp hx).2
  intro h
  rw [h] at this
  cases this
theorem drop_none (h : findE L nm z = none) : dropE L nm z = L := by
  unfold dropE
  refine List.filter_eq_self.mpr fun x hx => ?_
  have := List.find?_eq_none.mp h x hx
  simpa using this
theorem len_putE {e : Ent} : (putE L e).length ≤ L.length + 1 := by
  unfold putE
  split
  · rw [List.length_map]
    omega
  · rw [List.length_append]
    exact Nat.le_refl _
theorem len_dropE : (dropE L nm z).length ≤ L.length := List.length_filter_le _ _
end
/-- whether a kept form would be given -/
def holdE (chk : Str) (o : Option Ent) (l : Option (Str × Int)) : Bool := match o, l with
  | some e, some (t, a) => if chk = "sum" then e.t == t else ((e.a == a) && (((e.t.length : Nat) : Int) == ((t.length : Nat) : Int)))
  | _, _ => false
def lieD : Dt → Option (Str × Int)
  | .tup [.str t, .bl _, .int a] => some (t, a)
  | _ => none
def lies (kvs : List (Key × Dt)) (z : Str) : Option (Str × Int) := (valD kvs (.inr z)).bind lieD
theorem lies_some {kvs : List (Key × Dt)} {z t : Str} {k : Bool} {a : Int} (h : valD kvs (.inr z) = some (tpD t k a)) : lies kvs z = some (t, a) := by
  unfold lies
  rw [h]
  rfl
theorem lies_none {kvs : List (Key × Dt)} {z : Str} (h : valD kvs (.inr z) = none) : lies kvs z = none := by
  unfold lies
  rw [h]
  rfl
theorem cs1 : ((Str.ofString "stamp") == Str.ofString "sum") = false := by decide +kernel
theorem cs2 : ((Str.ofString "sum") == Str.ofString "sum") = true := by decide +kernel
theorem cs3 : ¬ (Str.ofString "stamp") = Str.ofString "sum" := by decide +kernel
theorem texts_len : ∀ s ∈ textsL, s.length ≤ 100 := by decide +kernel
section
variable {μ : Mem} {f r p b : Nat} {chk nm z : Str} {kvs : List (Key × Dt)} {L : List Ent} {made kept c : Int}
theorem fo_check (ho : μ[f]? = some (.ins 16 (foF chk r made kept))) : oFld nx ni "check" (.ptr f) μ = .ok (.str chk) μ := by
  rw [oFld_ptr]
  have e : List.lookup (Str.ofString "check") (foF chk r made kept) = some (.str chk) := rfl
  simp [insAt, ho, nf_check, e]
theorem fo_read (ho : μ[f]? = some (.ins 16 (foF chk r made kept))) : oFld nx ni "read" (.ptr f) μ = .ok (.ptr r) μ := by
  rw [oFld_ptr]
  have e : List.lookup (Str.ofString "read") (foF chk r made kept) = some (.ptr r) := rfl
  simp [insAt, ho, nf_read, e]
def GoodL (L : List Ent) : Prop := ∀ e ∈ L, e.t ∈ textsL ∧ nameS e.z = true
theorem GoodL.find (h : GoodL L) {e : Ent} (q : findE L nm z = some e) : e.t ∈ textsL := (h e (List.mem_of_find?_eq_some q)).1
theorem GoodL.put (h : GoodL L) {e : Ent} (h1 : e.t ∈ textsL) (h2 : nameS e.z = true) : GoodL (putE L e) := fun x hx => by
  unfold putE at hx
  split at hx
  · obtain ⟨y, hy, rfl⟩ := List.mem_map.mp hx
    split
    · exact ⟨h1, h2⟩
    · exact h y hy
  · rcases List.mem_append.mp hx with hx | hx
    · exact h x hx
    · rw [List.mem_singleton.mp hx]
      exact ⟨h1, h2⟩
theorem GoodL.drop (h : GoodL L) : GoodL (dropE L nm z) := fun x hx => h x (List.mem_filter.mp hx).1
theorem e_holds (ho : μ[f]? = some (.ins 16 (foF chk r made kept))) (hq : asQ μ (.ptr r) = some (L.map (mkE fF))) (hck : chk = "stamp" ∨ chk = "sum") (gl : GoodL L) (gk : GoodK kvs) (s : SAt μ p b nm kvs c) (hz : nameS z = true) :
    m_Forms_holds [.ptr f, .ptr p, .str z] μ = .ok (.bl (holdE chk (findE L nm z) (lies kvs z))) μ := by
  unfold m_Forms_holds
  have e1 := e_entry s hz
  have fr := fo_read ho
  have fc := fo_check ho
  have fn := f_name s
  have so := s.o
  have hv := val_mk (f := fF) (L := L) (nm := nm) (z := z)
  cases hl : valD kvs (.inr z) with
  | none =>
    rw [lies_none hl]
    rw [hl] at e1
    have hh : holdE chk (findE L nm z) none = false := by unfold holdE; split <;> first | rfl | (rename_i h; cases h)
    rw [hh]
    cases hf : findE L nm z with
    | none =>
      rw [hf] at hv
      simp (disch := first | assumption | omega | (simp; done) | (simp; omega)) [oFld_ptr, oFld_exc, insAt, mMeth_ap, dctAt, oDGet_ptr, oDIn_ptr, stPut_ptr, O_no, sTry_ap, oCatN_pl, bAppend_ptr, srcZ_lp, srcL_ptr, oSl_ptr, oIx_ptr, lstAt,  bCount_dot, bSplit_dot, bRpart_dot, bLstrip_dot, bJoin_dot, bJoin_none, oIx_lst, oIx_tup, oIx_scr, oIx_str, oSl_str, srcR1_int, srcR2_int, cLen_str, oAdd_str, oAdd_lst, oEq_int, oNe_int, oEq_str, oNe_str, mDef_ap, if_no, cLenD_ptr, fr, fn, so, lkm_entry, e1, mTGet2, hq, key_of, hv, DM.isNon, -oFld_ptr]
    | some e =>
      rw [hf] at hv
      simp (disch := first | assumption | omega | (simp; done) | (simp; omega)) [oFld_ptr, oFld_exc, insAt, mMeth_ap, dctAt, oDGet_ptr, oDIn_ptr, stPut_ptr, O_no, sTry_ap, oCatN_pl, bAppend_ptr, srcZ_lp, srcL_ptr, oSl_ptr, oIx_ptr, lstAt,  bCount_dot, bSplit_dot, bRpart_dot, bLstrip_dot, bJoin_dot, bJoin_none, oIx_lst, oIx_tup, oIx_scr, oIx_str, oSl_str, srcR1_int, srcR2_int, cLen_str, oAdd_str, oAdd_lst, oEq_int, oNe_int, oEq_str, oNe_str, mDef_ap, if_no, cLenD_ptr, fr, fn, so, lkm_entry, e1, mTGet2, hq, key_of, hv, DM.isNon, fF, -oFld_ptr]
  | some d =>
    obtain ⟨t, k, a, rfl, ht⟩ := gk.val hl
    rw [lies_some hl]
    rw [hl] at e1
    cases hf : findE L nm z with
    | none =>
      rw [hf] at hv
      simp (disch := first | assumption | omega | (simp; done) | (simp; omega)) [oFld_ptr, oFld_exc, insAt, mMeth_ap, dctAt, oDGet_ptr, oDIn_ptr, stPut_ptr, O_no, sTry_ap, oCatN_pl, bAppend_ptr, srcZ_lp, srcL_ptr, oSl_ptr, oIx_ptr, lstAt,  bCount_dot, bSplit_dot, bRpart_dot, bLstrip_dot, bJoin_dot, bJoin_none, oIx_lst, oIx_tup, oIx_scr, oIx_str, oSl_str, srcR1_int, srcR2_int, cLen_str, oAdd_str, oAdd_lst, oEq_int, oNe_int, oEq_str, oNe_str, mDef_ap, if_no, cLenD_ptr, fr, fn, so, lkm_entry, e1, mTGet2, hq, key_of, hv, DM.isNon, tpD, holdE, -oFld_ptr]
    | some e =>
      rw [hf] at hv
      have l1 := texts_len t ht
      have l2 := texts_len _ (gl.find hf)
      have x0 : L2.atI [Dt.str t, .bl k, .int a] 0 = some (.str t) := rfl
      have x2 : L2.atI [Dt.str t, .bl k, .int a] 2 = some (.int a) := rfl
      have y0 : L2.atI [Dt.str e.t, .int e.a, .tup e.rows] 0 = some (.str e.t) := rfl
      have y1 : L2.atI [Dt.str e.t, .int e.a, .tup e.rows] 1 = some (.int e.a) := rfl
      have hA : ∀ A B : Bool, (if A = true then R.ok (Dt.bl B) μ else R.ok (Dt.bl false) μ) = R.ok (Dt.bl (A && B)) μ := fun A B => by cases A <;> rfl
      rcases hck with rfl | rfl
      · have hh : holdE "stamp" (some e) (some (t, a)) = ((e.a == a) && (((e.t.length : Nat) : Int) == ((t.length : Nat) : Int))) := by
          unfold holdE
          exact if_neg cs3
        rw [hh]
        cases ha : (e.a == a) with
        | true => simp (disch := first | assumption | omega | (simp; done) | (simp; omega)) [oFld_ptr, oFld_exc, insAt, mMeth_ap, dctAt, oDGet_ptr, oDIn_ptr, stPut_ptr, O_no, sTry_ap, oCatN_pl, bAppend_ptr, srcZ_lp, srcL_ptr, oSl_ptr, oIx_ptr, lstAt,  bCount_dot, bSplit_dot, bRpart_dot, bLstrip_dot, bJoin_dot, bJoin_none, oIx_lst, oIx_tup, oIx_scr, oIx_str, oSl_str, srcR1_int, srcR2_int, cLen_str, oAdd_str, oAdd_lst, oEq_int, oNe_int, oEq_str, oNe_str, mDef_ap, if_no, cLenD_ptr, fr, fn, fc, so, lkm_entry, e1, mTGet2, hq, key_of, hv, DM.isNon, tpD, fF, x0, x2, y0, y1, cs1, ha, -oFld_ptr]
        | false => simp (disch := first | assumption | omega | (simp; done) | (simp; omega)) [oFld_ptr, oFld_exc, insAt, mMeth_ap, dctAt, oDGet_ptr, oDIn_ptr, stPut_ptr, O_no, sTry_ap, oCatN_pl, bAppend_ptr, srcZ_lp, srcL_ptr, oSl_ptr, oIx_ptr, lstAt,  bCount_dot, bSplit_dot, bRpart_dot, bLstrip_dot, bJoin_dot, bJoin_none, oIx_lst, oIx_tup, oIx_scr, oIx_str, oSl_str, srcR1_int, srcR2_int, cLen_str, oAdd_str, oAdd_lst, oEq_int, oNe_int, oEq_str, oNe_str, mDef_ap, if_no, cLenD_ptr, fr, fn, fc, so, lkm_entry, e1, mTGet2, hq, key_of, hv, DM.isNon, tpD, fF, x0, x2, y0, y1, cs1, ha, -oFld_ptr]
      · have hh : holdE "sum" (some e) (some (t, a)) = (e.t == t) := by
          unfold holdE
          exact if_pos rfl
        rw [hh]
        simp (disch := first | assumption | omega | (simp; done) | (simp; omega)) [oFld_ptr, oFld_exc, insAt, mMeth_ap, dctAt, oDGet_ptr, oDIn_ptr, stPut_ptr, O_no, sTry_ap, oCatN_pl, bAppend_ptr, srcZ_lp, srcL_ptr, oSl_ptr, oIx_ptr, lstAt,  bCount_dot, bSplit_dot, bRpart_dot, bLstrip_dot, bJoin_dot, bJoin_none, oIx_lst, oIx_tup, oIx_scr, oIx_str, oSl_str, srcR1_int, srcR2_int, cLen_str, oAdd_str, oAdd_lst, oEq_int, oNe_int, oEq_str, oNe_str, mDef_ap, if_no, cLenD_ptr, fr, fn, fc, so, lkm_entry, e1, mTGet2, hq, key_of, hv, DM.isNon, tpD, fF, x0, x2, y0, y1, cs2, -oFld_ptr]
end

/-! law k15: forms -/
theorem at_ne {μ : Mem} {i j : Nat} {x y : MO} (h1 : μ[i]? = some x) (h2 : μ[j]? = some y) (h : x ≠ y) : i ≠ j := fun e => by
  subst e
  rw [h1] at h2
  exact h (Option.some.inj h2)
theorem set_self {μ : Mem} {i : Nat} {o : MO} (h : μ[i]? = some o) : μ.set i o = μ := by
  apply List.ext_getElem?
  intro j
  by_cases hj : i = j
  · subst hj
    rw [set_at h, h]
  · rw [List.getElem?_set_ne hj]
theorem set_ins {μ : Mem} {f r : Nat} {x y z : MO} (h : f ≠ r) : ((μ.set f x).set r y).set f z = (μ.set r y).set f z := by
  rw [List.set_comm _ _ h, List.set_set]
theorem SAt.keep {μ M : Mem} {p b : Nat} {nm : Str} {kvs : List (Key × Dt)} {c : Int} (s : SAt μ p b nm kvs c) (h1 : M[p]? = μ[p]?) (h2 : M[b]? = μ[b]?) : SAt M p b nm kvs c := ⟨h1.trans s.o, h2.trans s.d⟩
section
variable {μ : Mem} {f r p b : Nat} {chk nm z t : Str} {kvs : List (Key × Dt)} {L : List Ent} {made c a : Int} {k : Bool}
abbrev FE (μ : Mem) (f r : Nat) (chk : Str) (L : List Ent) (made : Int) : Prop := FAt μ f r chk (L.map (mkE fF)) made (L.length : Int)
def memF (μ : Mem) (f r : Nat) (chk : Str) (L : List Ent) (made : Int) : Mem := (μ.set r (.dT (L.map (mkE fF)))).set f (.ins 16 (foF chk r made (L.length : Int)))
theorem memF_self (w : FE μ f r chk L made) : memF μ f r chk L made = μ := by
  unfold memF
  rw [set_self w.d, set_self w.o]
theorem e_formH {e : Ent} (w : FE μ f r chk L made) (hck : chk = "stamp" ∨ chk = "sum") (gl : GoodL L) (gk : GoodK kvs) (s : SAt μ p b nm kvs c) (hz : nameS z = true) (hl : valD kvs (.inr z) = some (tpD t k a)) (hf : findE L nm z = some e) (hh : holdE chk (findE L nm z) (lies kvs z) = true) :
    m_Forms_form [.ptr f, .ptr p, .str z] μ = .ok (.lst e.rows) μ := by
  unfold m_Forms_form
  have e1 := e_entry s hz
  rw [hl] at e1
  have e2 := e_holds w.o (asQ_at w.d) hck gl gk s hz
  rw [hh] at e2
  have so := s.o
  have fo := w.o
  have fr := fo_read fo
  have fn := f_name s
  have g3 : oTGet (.ptr r) (.tup [.str nm, .str z]) μ = .ok (.tup [.str e.t, .int e.a, .tup e.rows]) μ := by
    have hv := val_mk (f := fF) (L := L) (nm := nm) (z := z)
    rw [hf] at hv
    simp only [oTGet, asQ_at w.d, key_of, hv]
    rfl
  have y2 : L2.atI [Dt.str e.t, .int e.a, .tup e.rows] 2 = some (.tup e.rows) := rfl
  have cL : cLst [.tup e.rows] μ = .ok (.lst e.rows) μ := rfl
  clear w
  simp (disch := first | assumption | omega | (simp; done) | (simp; omega)) [oFld_ptr, oFld_exc, insAt, mMeth_ap, dctAt, oDGet_ptr, oDIn_ptr, stPut_ptr, O_no, sTry_ap, oCatN_pl, bAppend_ptr, srcZ_lp, srcL_ptr, oSl_ptr, oIx_ptr, lstAt,  bCount_dot, bSplit_dot, bRpart_dot, bLstrip_dot, bJoin_dot, bJoin_none, oIx_lst, oIx_tup, oIx_scr, oIx_str, oSl_str, srcR1_int, srcR2_int, cLen_str, oAdd_str, oAdd_lst, oEq_int, oNe_int, oEq_str, oNe_str, mDef_ap, if_no, cLenD_ptr, so, fo, lkm_entry, lkf_holds, e1, e2, fr, fn, g3, y2, cL, DM.isNon, tpD, -oFld_ptr]
theorem e_formG (w : FE μ f r chk L made) (hck : chk = "stamp" ∨ chk = "sum") (gl : GoodL L) (gk : GoodK kvs) (s : SAt μ p b nm kvs c) (hz : nameS z = true) (hl : valD kvs (.inr z) = some (tpD t k a)) (ht : t ∈ textsL) (hg : goodT t = true) (hh : holdE chk (findE L nm z) (lies kvs z) = false) (hlen : L.length ≤ 1000) :
    m_Forms_form [.ptr f, .ptr p, .str z] μ = .ok (.lst (rowsD t)) (memF μ f r chk (putE L ⟨nm, z, t, a, wordsT t⟩) (made + 1)) := by
  have so := s.o
  have fo := w.o
  have e1 := e_entry s hz
  rw [hl] at e1
  have e2 := e_holds w.o (asQ_at w.d) hck gl gk s hz
  rw [hh] at e2
  have rd := body_yes (μ := μ) ht hg
  have x0 : L2.atI [Dt.str t, .bl k, .int a] 0 = some (.str t) := rfl
  have x2 : L2.atI [Dt.str t, .bl k, .int a] 2 = some (.int a) := rfl
  have fm := ff_made w
  have nfr : f ≠ r := at_ne w.o w.d (by simp)
  have npf : p ≠ f := at_ne s.o w.o (by simp)
  have npr : p ≠ r := at_ne s.o w.d (by simp)
  have nbf : b ≠ f := at_ne s.d w.o (by simp)
  have nbr : b ≠ r := at_ne s.d w.d (by simp)
  unfold memF
  rw [← set_ins (x := .ins 16 (foF chk r (made + 1) (L.length : Int))) nfr]
  have t1 : ∀ δ, stFld ni "made" δ (.int (made + 1)) (.ptr f) μ = .nx δ (μ.set f (.ins 16 (foF chk r (made + 1) (L.length : Int)))) := fun δ => stFld_ptr fo nf_made (show 4 < 1000 by decide)
  have hk1 : ∀ i, i ≠ f → (μ.set f (.ins 16 (foF chk r (made + 1) (L.length : Int))))[i]? = μ[i]? := fun i hi => List.getElem?_set_ne hi.symm
  have f1o : (μ.set f (.ins 16 (foF chk r (made + 1) (L.length : Int))))[f]? = some (.ins 16 (foF chk r (made + 1) (L.length : Int))) := set_at fo
  generalize μ.set f (.ins 16 (foF chk r (made + 1) (L.length : Int))) = M1 at t1 hk1 f1o ⊢
  have f1d := (hk1 _ nfr.symm).trans w.d
  have s1 := s.keep (hk1 _ npf) (hk1 _ nbf)
  have fn1 := f_name s1
  have fr1 := fo_read f1o
  have t2 : ∀ δ, stPutT δ (.tup [.str t, .int a, .tup (rowsD t)]) (.ptr r) (.tup [.str nm, .str z]) M1 = .nx δ (M1.set r (.dT ((putE L ⟨nm, z, t, a, wordsT t⟩).map (mkE fF)))) := fun δ => by
    have hp := put_mk (f := fF) (L := L) (e := ⟨nm, z, t, a, wordsT t⟩)
    rw [← hp]
    simp only [stPutT, asQw_at f1d, key_of]
    exact if_pos (by rw [List.length_map]; omega)
  have hk2 : ∀ i, i ≠ r → (M1.set r (.dT ((putE L ⟨nm, z, t, a, wordsT t⟩).map (mkE fF))))[i]? = M1[i]? := fun i hi => List.getElem?_set_ne hi.symm
  have f2d : (M1.set r (.dT ((putE L ⟨nm, z, t, a, wordsT t⟩).map (mkE fF))))[r]? = some (.dT ((putE L ⟨nm, z, t, a, wordsT t⟩).map (mkE fF))) := set_at f1d
  have fe : findE (putE L ⟨nm, z, t, a, wordsT t⟩) nm z = some ⟨nm, z, t, a, wordsT t⟩ := find_put (L := L) (e := ⟨nm, z, t, a, wordsT t⟩)
  generalize putE L ⟨nm, z, t, a, wordsT t⟩ = LN at t2 hk2 f2d fe ⊢
  generalize M1.set r (.dT (LN.map (mkE fF))) = M2 at t2 hk2 f2d ⊢
  have f2o := (hk2 _ nfr).trans f1o
  have fr2 := fo_read f2o
  have cl : cLenT [.ptr r] M2 = .ok (.int (LN.length : Int)) M2 := by
    simp only [cLenT, asQw_at f2d, List.length_map]
  have t3 : ∀ δ, stFld ni "kept" δ (.int (LN.length : Int)) (.ptr f) M2 = .nx δ (M2.set f (.ins 16 (foF chk r (made + 1) (LN.length : Int)))) := fun δ => stFld_ptr f2o nf_kept (show 4 < 1000 by decide)
  have hk3 : ∀ i, i ≠ f → (M2.set f (.ins 16 (foF chk r (made + 1) (LN.length : Int))))[i]? = M2[i]? := fun i hi => List.getElem?_set_ne hi.symm
  have f3o : (M2.set f (.ins 16 (foF chk r (made + 1) (LN.length : Int))))[f]? = some (.ins 16 (foF chk r (made + 1) (LN.length : Int))) := set_at f2o
  generalize M2.set f (.ins 16 (foF chk r (made + 1) (LN.length : Int))) = M3 at t3 hk3 f3o ⊢
  have f3d := (hk3 _ nfr.symm).trans f2d
  have s3 : SAt M3 p b nm kvs c := s.keep ((hk3 _ npf).trans ((hk2 _ npr).trans (hk1 _ npf))) ((hk3 _ nbf).trans ((hk2 _ nbr).trans (hk1 _ nbf)))
  have fn3 := f_name s3
  have fr3 := fo_read f3o
  have g3 : oTGet (.ptr r) (.tup [.str nm, .str z]) M3 = .ok (.tup [.str t, .int a, .tup (rowsD t)]) M3 := by
    have hv := val_mk (f := fF) (L := LN) (nm := nm) (z := z)
    rw [fe] at hv
    simp only [oTGet, asQ_at f3d, key_of, hv]
    rfl
  have y2 : L2.atI [Dt.str t, .int a, .tup (rowsD t)] 2 = some (.tup (rowsD t)) := rfl
  have cL : cLst [.tup (rowsD t)] M3 = .ok (.lst (rowsD t)) M3 := rfl
  have cT : cTup [.lst (rowsD t)] μ = .ok (.tup (rowsD t)) μ := rfl
  clear w s3 s1 s fe hk1 hk2 hk3
  generalize rowsD t = RR at *
  unfold m_Forms_form
  rw [mDef_ap (by rfl)]
  refine Eq.trans (b := O.out (.rt (.lst RR) M3)) (congrArg O.out ?_) rfl
  refine seq_step (δ1 := [some (.ptr f), some (.ptr p), some (.str z), some (.tup [.str t, .bl k, .int a]), none]) (μ1 := μ) (by simp (disch := first | assumption | omega | (simp; done) | (simp; omega)) [oFld_ptr, oFld_exc, insAt, mMeth_ap, dctAt, oDGet_ptr, oDIn_ptr, stPut_ptr, O_no, sTry_ap, oCatN_pl, bAppend_ptr, srcZ_lp, srcL_ptr, oSl_ptr, oIx_ptr, lstAt,  bCount_dot, bSplit_dot, bRpart_dot, bLstrip_dot, bJoin_dot, bJoin_none, oIx_lst, oIx_tup, oIx_scr, oIx_str, oSl_str, srcR1_int, srcR2_int, cLen_str, oAdd_str, oAdd_lst, oEq_int, oNe_int, oEq_str, oNe_str, mDef_ap, if_no, cLenD_ptr, so, lkm_entry, e1, tpD]) ?_
  refine seq_step (δ1 := [some (.ptr f), some (.ptr p), some (.str z), some (.tup [.str t, .bl k, .int a]), none]) (μ1 := μ) (by simp (disch := first | assumption | omega | (simp; done) | (simp; omega)) [oFld_ptr, oFld_exc, insAt, mMeth_ap, dctAt, oDGet_ptr, oDIn_ptr, stPut_ptr, O_no, sTry_ap, oCatN_pl, bAppend_ptr, srcZ_lp, srcL_ptr, oSl_ptr, oIx_ptr, lstAt,  bCount_dot, bSplit_dot, bRpart_dot, bLstrip_dot, bJoin_dot, bJoin_none, oIx_lst, oIx_tup, oIx_scr, oIx_str, oSl_str, srcR1_int, srcR2_int, cLen_str, oAdd_str, oAdd_lst, oEq_int, oNe_int, oEq_str, oNe_str, mDef_ap, if_no, cLenD_ptr, DM.isNon]) ?_
  refine seq_step (δ1 := [some (.ptr f), some (.ptr p), some (.str z), some (.tup [.str t, .bl k, .int a]), some (.tup RR)]) (μ1 := M3) (by
    simp (disch := first | assumption | omega | (simp; done) | (simp; omega)) [oFld_ptr, oFld_exc, insAt, mMeth_ap, dctAt, oDGet_ptr, oDIn_ptr, stPut_ptr, O_no, sTry_ap, oCatN_pl, bAppend_ptr, srcZ_lp, srcL_ptr, oSl_ptr, oIx_ptr, lstAt,  bCount_dot, bSplit_dot, bRpart_dot, bLstrip_dot, bJoin_dot, bJoin_none, oIx_lst, oIx_tup, oIx_scr, oIx_str, oSl_str, srcR1_int, srcR2_int, cLen_str, oAdd_str, oAdd_lst, oEq_int, oNe_int, oEq_str, oNe_str, mDef_ap, if_no, cLenD_ptr, fo, lkf_holds, e2, x0, x2, rd, cT, fm, t1, fr1, fn1, sTPutM, t2, fr2, cl, t3, -oFld_ptr]) ?_
  simp (disch := first | assumption | omega | (simp; done) | (simp; omega)) [oFld_ptr, oFld_exc, insAt, mMeth_ap, dctAt, oDGet_ptr, oDIn_ptr, stPut_ptr, O_no, sTry_ap, oCatN_pl, bAppend_ptr, srcZ_lp, srcL_ptr, oSl_ptr, oIx_ptr, lstAt,  bCount_dot, bSplit_dot, bRpart_dot, bLstrip_dot, bJoin_dot, bJoin_none, oIx_lst, oIx_tup, oIx_scr, oIx_str, oSl_str, srcR1_int, srcR2_int, cLen_str, oAdd_str, oAdd_lst, oEq_int, oNe_int, oEq_str, oNe_str, mDef_ap, if_no, cLenD_ptr, fr3, fn3, g3, y2, cL, -oFld_ptr]
/-- not held, no body -/
theorem e_formN {n : Int} (w : FE μ f r chk L made) (hck : chk = "stamp" ∨ chk = "sum") (gl : GoodL L) (gk : GoodK kvs) (s : SAt μ p b nm kvs c) (hz : nameS z = true) (hl : valD kvs (.inr z) = some (tpD t k a)) (hb : ∀ μ, m_read_body [.str t] μ = .ex 5 ["trail", "row"] [.ktp [], .int n] μ) (hh : holdE chk (findE L nm z) (lies kvs z) = false) :
    m_Forms_form [.ptr f, .ptr p, .str z] μ = .ex 5 ["trail", "row"] [.ktp [], .int n] μ := by
  unfold m_Forms_form
  have e1 := e_entry s hz
  rw [hl] at e1
  have e2 := e_holds w.o (asQ_at w.d) hck gl gk s hz
  rw [hh] at e2
  have so := s.o
  have fo := w.o
  have hb := hb μ
  have a0 : L2.atI [Dt.str t, .bl k, .int a] 0 = some (.str t) := rfl
  clear w s
  simp (disch := first | assumption | omega | (simp; done) | (simp; omega)) [oFld_ptr, oFld_exc, insAt, mMeth_ap, dctAt, oDGet_ptr, oDIn_ptr, stPut_ptr, O_no, sTry_ap, oCatN_pl, bAppend_ptr, srcZ_lp, srcL_ptr, oSl_ptr, oIx_ptr, lstAt,  bCount_dot, bSplit_dot, bRpart_dot, bLstrip_dot, bJoin_dot, bJoin_none, oIx_lst, oIx_tup, oIx_scr, oIx_str, oSl_str, srcR1_int, srcR2_int, cLen_str, oAdd_str, oAdd_lst, oEq_int, oNe_int, oEq_str, oNe_str, mDef_ap, if_no, cLenD_ptr, so, fo, lkm_entry, lkf_holds, e1, e2, hb, a0, DM.isNon, tpD, -oFld_ptr]
theorem e_drop (w : FE μ f r chk L made) (s : SAt μ p b nm kvs c) : m_Forms_drop [.ptr f, .ptr p, .str z] μ = .ok (.bl (findE L nm z).isSome) (memF μ f r chk (dropE L nm z) made) := by
  have fo := w.o
  have fr := fo_read fo
  have fn := f_name s
  have gq := asQw_at w.d
  have nfr : f ≠ r := at_ne w.o w.d (by simp)
  have ty : tyM "dict" (.ptr r) μ = true := by rw [tyM_ptr, w.d]; rfl
  have hv := val_mk (f := fF) (L := L) (nm := nm) (z := z)
  cases hf : findE L nm z with
  | none =>
    rw [hf] at hv
    rw [drop_none hf]
    have bp : bTPop (.ptr r) [.tup [.str nm, .str z], .non] μ = .ok .non μ := by
      simp only [bTPop, gq, key_of, hv, Option.map_none]
    have cl : cLenT [.ptr r] μ = .ok (.int (L.length : Int)) μ := by
      simp only [cLenT, gq, List.length_map]
    have s1 : ∀ δ, stFld ni "kept" δ (.int (L.length : Int)) (.ptr f) μ = .nx δ (memF μ f r chk L made) := fun δ => by
      unfold memF
      rw [set_self w.d]
      exact stFld_ptr fo nf_kept (show 4 < 1000 by decide)
    unfold m_Forms_drop
    clear w
    simp (disch := first | assumption | omega | (simp; done) | (simp; omega)) [oFld_ptr, oFld_exc, insAt, mMeth_ap, dctAt, oDGet_ptr, oDIn_ptr, stPut_ptr, O_no, sTry_ap, oCatN_pl, bAppend_ptr, srcZ_lp, srcL_ptr, oSl_ptr, oIx_ptr, lstAt,  bCount_dot, bSplit_dot, bRpart_dot, bLstrip_dot, bJoin_dot, bJoin_none, oIx_lst, oIx_tup, oIx_scr, oIx_str, oSl_str, srcR1_int, srcR2_int, cLen_str, oAdd_str, oAdd_lst, oEq_int, oNe_int, oEq_str, oNe_str, mDef_ap, if_no, cLenD_ptr, fr, fn, ty, bp, cl, s1, DM.isNon, -oFld_ptr, -tyM_ptr]
  | some e =>
    rw [hf] at hv
    have hd := drop_mk (f := fF) (L := L) (nm := nm) (z := z)
    unfold memF
    have bp : bTPop (.ptr r) [.tup [.str nm, .str z], .non] μ = .ok (fF e) (μ.set r (.dT ((dropE L nm z).map (mkE fF)))) := by
      simp only [bTPop, gq, key_of, hv, Option.map_some, hd]
    have hk1 : ∀ i, i ≠ r → (μ.set r (.dT ((dropE L nm z).map (mkE fF))))[i]? = μ[i]? := fun i hi => List.getElem?_set_ne hi.symm
    have f1d : (μ.set r (.dT ((dropE L nm z).map (mkE fF))))[r]? = some (.dT ((dropE L nm z).map (mkE fF))) := set_at w.d
    generalize μ.set r (.dT ((dropE L nm z).map (mkE fF))) = M1 at bp hk1 f1d ⊢
    have f1o := (hk1 _ nfr).trans fo
    have fr1 := fo_read f1o
    have cl : cLenT [.ptr r] M1 = .ok (.int ((dropE L nm z).length : Int)) M1 := by
      simp only [cLenT, asQw_at f1d, List.length_map]
    have s1 : ∀ δ, stFld ni "kept" δ (.int ((dropE L nm z).length : Int)) (.ptr f) M1 = .nx δ (M1.set f (.ins 16 (foF chk r made ((dropE L nm z).length : Int)))) := fun δ => stFld_ptr f1o nf_kept (show 4 < 1000 by decide)
    have hn : DM.isNon (fF e) = false := rfl
    unfold m_Forms_drop
    clear w
    simp (disch := first | assumption | omega | (simp; done) | (simp; omega)) [oFld_ptr, oFld_exc, insAt, mMeth_ap, dctAt, oDGet_ptr, oDIn_ptr, stPut_ptr, O_no, sTry_ap, oCatN_pl, bAppend_ptr, srcZ_lp, srcL_ptr, oSl_ptr, oIx_ptr, lstAt,  bCount_dot, bSplit_dot, bRpart_dot, bLstrip_dot, bJoin_dot, bJoin_none, oIx_lst, oIx_tup, oIx_scr, oIx_str, oSl_str, srcR1_int, srcR2_int, cLen_str, oAdd_str, oAdd_lst, oEq_int, oNe_int, oEq_str, oNe_str, mDef_ap, if_no, cLenD_ptr, fr, fn, ty, bp, fr1, cl, s1, hn, -oFld_ptr, -tyM_ptr]
end

/-! law k15: stale -/
theorem lcL_pureG {tg : MG} {nt : MT} {me : MX} {δ : DM.Env} {ds : List Dt} {μ : Mem} {gd : Option (Nat × MO)} (hg : okG gd μ) (p : Dt → Bool) (F : Dt → Dt)
    (h : ∀ d, d ∈ ds → ∃ δ1, tg d δ μ = some δ1 ∧ nt δ1 μ = .ok (p d) μ ∧ (p d = true → me δ1 μ = .ok (F d) μ)) : lcL tg nt me δ gd ds μ = .ok ((ds.filter p).map F) μ := by
  induction ds with
  | nil => rw [lcL_nil hg]; rfl
  | cons d ds ih =>
    obtain ⟨δ1, e1, e2, e3⟩ := h d List.mem_cons_self
    have ih := ih fun d hd => h d (List.mem_cons_of_mem _ hd)
    rw [lcL_cons hg, e1]
    cases hp : p d with
    | true =>
      have e3 := e3 hp
      simp [e2, hp, e3, ih]
    | false => simp [e2, hp, ih]
/-- whether another text lies there -/
def differ (o : Option Ent) (l : Option (Str × Int)) : Bool := match o, l with
  | some e, some (t, _) => !(e.t == t)
  | _, _ => false
def holdZ (chk nm : Str) (k1 : List (Key × Dt)) (L : List Ent) (z : Str) : Bool := holdE chk (findE L nm z) (lies k1 z)
def difZ (nm : Str) (k1 : List (Key × Dt)) (L : List Ent) (z : Str) : Bool := differ (findE L nm z) (lies k1 z)
def keptL (chk nm : Str) (k1 : List (Key × Dt)) (L : List Ent) : List Str := (L.filter fun e => decide (e.nm = nm) && holdZ chk nm k1 L e.z).map Ent.z
def staleL (chk nm : Str) (k1 : List (Key × Dt)) (L : List Ent) : List Str := sortT ((keptL chk nm k1 L).filter (difZ nm k1 L))
def pD (chk nm : Str) (k1 : List (Key × Dt)) (L : List Ent) : Dt → Bool
  | .tup [.str m, .str y] => decide (m = nm) && holdZ chk nm k1 L y
  | _ => false
def sndD : Dt → Dt
  | .tup [_, y] => y
  | d => d
def keyTD (e : Ent) : Dt := .tup [.str e.nm, .str e.z]
theorem hold_some {chk : Str} {o : Option Ent} {l : Option (Str × Int)} (h : holdE chk o l = true) : ∃ e t a, o = some e ∧ l = some (t, a) := by
  unfold holdE at h
  split at h
  · exact ⟨_, _, _, rfl, rfl⟩
  · cases h
theorem lies_val {kvs : List (Key × Dt)} {z t : Str} {a : Int} (g : GoodK kvs) (h : lies kvs z = some (t, a)) : ∃ k, valD kvs (.inr z) = some (tpD t k a) ∧ t ∈ textsL := by
  unfold lies at h
  obtain ⟨d, e1, e2⟩ := Option.bind_eq_some_iff.mp h
  obtain ⟨t', k, a', rfl, ht⟩ := g.val e1
  have e2 : some (t', a') = some (t, a) := e2
  cases e2
  exact ⟨k, e1, ht⟩
section
variable {μ M : Mem} {chk n1 n2 z t : Str} {k1 k2 : List (Key × Dt)} {c1 c2 a m : Int} {L LF LS : List Ent} {mF mS : Int} {k : Bool}
theorem kept_map : ((L.map keyTD).filter (pD chk n1 k1 LF)).map sndD = strsD ((L.filter fun e => decide (e.nm = n1) && holdZ chk n1 k1 LF e.z).map Ent.z) := by
  rw [List.filter_map, List.map_map]
  unfold strsD
  rw [List.map_map]
  rfl
theorem kept_mem {y : Str} (h : y ∈ keptL chk n1 k1 LF) (hF : GoodL LF) (h1 : GoodK k1) : ∃ e t k a, findE LF n1 y = some e ∧ valD k1 (.inr y) = some (tpD t k a) ∧ lies k1 y = some (t, a) ∧ nameS y = true := by
  obtain ⟨e, he, rfl⟩ := List.mem_map.mp h
  obtain ⟨q1, q2⟩ := List.mem_filter.mp he
  rw [Bool.and_eq_true] at q2
  obtain ⟨e', t, a, r1, r2⟩ := hold_some q2.2
  obtain ⟨k, r3, _⟩ := lies_val h1 r2
  exact ⟨e', t, k, a, r1, r3, r2, (hF e q1).2⟩
theorem e_stale {f r p1 b1 : Nat} (ww : FE μ f r chk LF mF) (ck : chk = "stamp" ∨ chk = "sum") (hF : GoodL LF) (h1 : GoodK k1) (s1 : SAt μ p1 b1 n1 k1 c1) (hlen : LF.length < 64) : m_Forms_stale [.ptr f, .ptr p1] μ = .ok (.lst (strsD (staleL chk n1 k1 LF))) μ := by
  have fo := ww.o
  have gd := ww.d
  have nfr : f ≠ r := at_ne ww.o ww.d (by simp)
  have npr : p1 ≠ r := at_ne s1.o ww.d (by simp)
  have nbr : b1 ≠ r := at_ne s1.d ww.d (by simp)
  have hlt := (List.getElem?_eq_some_iff.mp gd).1
  have gl : (μ.set r (.lkT (LF.map (mkE fF))))[r]? = some (.lkT (LF.map (mkE fF))) := List.getElem?_set_self hlt
  have hkl : ∀ i, i ≠ r → (μ.set r (.lkT (LF.map (mkE fF))))[i]? = μ[i]? := fun i hi => List.getElem?_set_ne hi.symm
  have back : (μ.set r (.lkT (LF.map (mkE fF)))).set r (.dT (LF.map (mkE fF))) = μ := by
    rw [List.set_set]
    apply List.ext_getElem?
    intro j
    by_cases hj : r = j
    · subst hj
      rw [List.getElem?_set_self hlt, gd]
    · rw [List.getElem?_set_ne hj]
  have fo2 := (hkl _ nfr).trans fo
  have sl := s1.keep (hkl _ npr) (hkl _ nbr)
  have ql : asQ (μ.set r (.lkT (LF.map (mkE fF)))) (.ptr r) = some (LF.map (mkE fF)) := by
    simp only [asQ, gl]
  have fr := fo_read fo
  have gq := asQ_at ww.d
  clear ww
  generalize hML : μ.set r (.lkT (LF.map (mkE fF))) = ML at gl fo2 sl ql back
  have fr2 := fo_read fo2
  have fn2 := f_name sl
  have so2 := sl.o
  have hf : lcL (gTupM 2 (gsCons (gSet 3) (gsCons (gSet 4) gsNil))) (mAnd (mTest (mOp oEq (mV 3) (mUn (oFld nx ni "name") (mV 1)))) (mTest (mMeth (tbl1 16 m_Forms_holds) "holds" 2 0 [0, 1, 2] [] (mV 0) (mCons (mV 1) (mCons (mV 4) mNil)) mNil))) (mV 4) (wipeD [some (.ptr f), some (.ptr p1), none, none, none] [3, 4]) (some (r, .lkT (LF.map (mkE fF)))) (LF.map keyTD) ML = .ok (strsD (keptL chk n1 k1 LF)) ML := by
    have hok : okG (some (r, MO.lkT (LF.map (mkE fF)))) ML := fun i o e => by
      cases e
      exact gl
    have := lcL_pureG (tg := gTupM 2 (gsCons (gSet 3) (gsCons (gSet 4) gsNil))) (nt := mAnd (mTest (mOp oEq (mV 3) (mUn (oFld nx ni "name") (mV 1)))) (mTest (mMeth (tbl1 16 m_Forms_holds) "holds" 2 0 [0, 1, 2] [] (mV 0) (mCons (mV 1) (mCons (mV 4) mNil)) mNil))) (me := mV 4) (δ := wipeD [some (.ptr f), some (.ptr p1), none, none, none] [3, 4]) (ds := LF.map keyTD) hok (pD chk n1 k1 LF) sndD (by
      intro d hd
      obtain ⟨e, he, rfl⟩ := List.mem_map.mp hd
      have hz := (hF e he).2
      have hh := e_holds (z := e.z) fo2 ql ck hF h1 sl hz
      refine ⟨[some (.ptr f), some (.ptr p1), none, some (.str e.nm), some (.str e.z)], rfl, ?_, fun _ => rfl⟩
      have pe : pD chk n1 k1 LF (keyTD e) = (decide (e.nm = n1) && holdZ chk n1 k1 LF e.z) := rfl
      rw [pe]
      by_cases c : e.nm = n1
      · rw [decide_eq_true c]
        have hb : (e.nm == n1) = true := by rw [c]; exact beq_self_eq_true n1
        simp (disch := first | assumption | omega | (simp; done) | (simp; omega)) [oFld_ptr, oFld_exc, insAt, mMeth_ap, dctAt, oDGet_ptr, oDIn_ptr, stPut_ptr, O_no, sTry_ap, oCatN_pl, bAppend_ptr, srcZ_lp, srcL_ptr, oSl_ptr, oIx_ptr, lstAt,  bCount_dot, bSplit_dot, bRpart_dot, bLstrip_dot, bJoin_dot, bJoin_none, oIx_lst, oIx_tup, oIx_scr, oIx_str, oSl_str, srcR1_int, srcR2_int, cLen_str, oAdd_str, oAdd_lst, oEq_int, oNe_int, oEq_str, oNe_str, mDef_ap, if_no, cLenD_ptr, fn2, hb, fo2, lkf_holds, hh, holdZ, -oFld_ptr]
      · rw [decide_eq_false c]
        have hb : (e.nm == n1) = false := beq_eq_false_iff_ne.mpr c
        simp (disch := first | assumption | omega | (simp; done) | (simp; omega)) [oFld_ptr, oFld_exc, insAt, mMeth_ap, dctAt, oDGet_ptr, oDIn_ptr, stPut_ptr, O_no, sTry_ap, oCatN_pl, bAppend_ptr, srcZ_lp, srcL_ptr, oSl_ptr, oIx_ptr, lstAt,  bCount_dot, bSplit_dot, bRpart_dot, bLstrip_dot, bJoin_dot, bJoin_none, oIx_lst, oIx_tup, oIx_scr, oIx_str, oSl_str, srcR1_int, srcR2_int, cLen_str, oAdd_str, oAdd_lst, oEq_int, oNe_int, oEq_str, oNe_str, mDef_ap, if_no, cLenD_ptr, fn2, hb, -oFld_ptr])
    rw [this, kept_map]
    rfl
  have hb : sAsg (mLc (miKeysT (mUn (oFld nx ni "read") (mV 0))) (gTupM 2 (gsCons (gSet 3) (gsCons (gSet 4) gsNil))) (mAnd (mTest (mOp oEq (mV 3) (mUn (oFld nx ni "name") (mV 1)))) (mTest (mMeth (tbl1 16 m_Forms_holds) "holds" 2 0 [0, 1, 2] [] (mV 0) (mCons (mV 1) (mCons (mV 4) mNil)) mNil))) (mV 4) [3, 4]) (gSet 2) [some (.ptr f), some (.ptr p1), none, none, none] ML = .nx [some (.ptr f), some (.ptr p1), some (.lst (strsD (keptL chk n1 k1 LF))), none, none] ML := by
    have hi : miKeysT (mUn (oFld nx ni "read") (mV 0)) [some (.ptr f), some (.ptr p1), none, none, none] ML = .ok (LF.map keyTD, some (r, .lkT (LF.map (mkE fF)))) ML := by
      have hp : mUn (oFld nx ni "read") (mV 0) [some (.ptr f), some (.ptr p1), none, none, none] ML = .ok (.ptr r) ML := by simp (disch := first | assumption | omega | (simp; done) | (simp; omega)) [oFld_ptr, oFld_exc, insAt, mMeth_ap, dctAt, oDGet_ptr, oDIn_ptr, stPut_ptr, O_no, sTry_ap, oCatN_pl, bAppend_ptr, srcZ_lp, srcL_ptr, oSl_ptr, oIx_ptr, lstAt,  bCount_dot, bSplit_dot, bRpart_dot, bLstrip_dot, bJoin_dot, bJoin_none, oIx_lst, oIx_tup, oIx_scr, oIx_str, oSl_str, srcR1_int, srcR2_int, cLen_str, oAdd_str, oAdd_lst, oEq_int, oNe_int, oEq_str, oNe_str, mDef_ap, if_no, cLenD_ptr, fr2, -oFld_ptr]
      unfold miKeysT
      rw [hp]
      simp only [R.bind, gl, List.map_map]
      rfl
    have hm : mLc (miKeysT (mUn (oFld nx ni "read") (mV 0))) (gTupM 2 (gsCons (gSet 3) (gsCons (gSet 4) gsNil))) (mAnd (mTest (mOp oEq (mV 3) (mUn (oFld nx ni "name") (mV 1)))) (mTest (mMeth (tbl1 16 m_Forms_holds) "holds" 2 0 [0, 1, 2] [] (mV 0) (mCons (mV 1) (mCons (mV 4) mNil)) mNil))) (mV 4) [3, 4] [some (.ptr f), some (.ptr p1), none, none, none] ML = .ok (.lst (strsD (keptL chk n1 k1 LF))) ML := by
      unfold mLc lcR
      rw [hi]
      have hlm : (LF.map keyTD).length ≤ 1000000 := by rw [List.length_map]; omega
      simp only [R.bind, hlm, if_true, hf]
    unfold sAsg
    rw [hm]
    rfl
  have hl : sLockT (mUn (oFld nx ni "read") (mV 0)) (sAsg (mLc (miKeysT (mUn (oFld nx ni "read") (mV 0))) (gTupM 2 (gsCons (gSet 3) (gsCons (gSet 4) gsNil))) (mAnd (mTest (mOp oEq (mV 3) (mUn (oFld nx ni "name") (mV 1)))) (mTest (mMeth (tbl1 16 m_Forms_holds) "holds" 2 0 [0, 1, 2] [] (mV 0) (mCons (mV 1) (mCons (mV 4) mNil)) mNil))) (mV 4) [3, 4]) (gSet 2)) [some (.ptr f), some (.ptr p1), none, none, none] μ = .nx [some (.ptr f), some (.ptr p1), some (.lst (strsD (keptL chk n1 k1 LF))), none, none] μ := by
    have hp : mUn (oFld nx ni "read") (mV 0) [some (.ptr f), some (.ptr p1), none, none, none] μ = .ok (.ptr r) μ := by simp (disch := first | assumption | omega | (simp; done) | (simp; omega)) [oFld_ptr, oFld_exc, insAt, mMeth_ap, dctAt, oDGet_ptr, oDIn_ptr, stPut_ptr, O_no, sTry_ap, oCatN_pl, bAppend_ptr, srcZ_lp, srcL_ptr, oSl_ptr, oIx_ptr, lstAt,  bCount_dot, bSplit_dot, bRpart_dot, bLstrip_dot, bJoin_dot, bJoin_none, oIx_lst, oIx_tup, oIx_scr, oIx_str, oSl_str, srcR1_int, srcR2_int, cLen_str, oAdd_str, oAdd_lst, oEq_int, oNe_int, oEq_str, oNe_str, mDef_ap, if_no, cLenD_ptr, fr, -oFld_ptr]
    unfold sLockT
    rw [hp]
    simp only [gd, hML, hb, gl, back]
  have fn := f_name s1
  have so := s1.o
  have h2 : lcL (gSet 4) (mTest (mOp oNe (mOp oIx (mOp oTGet (mUn (oFld nx ni "read") (mV 0)) (mTup (mCons (mUn (oFld nx ni "name") (mV 1)) (mCons (mV 4) mNil)))) (mC (.int 0))) (mOp oIx (mMeth (tbl1 14 m_Store_entry) "entry" 1 0 [0, 1] [] (mV 1) (mCons (mV 4) mNil) mNil) (mC (.int 0))))) (mV 4) (wipeD [some (.ptr f), some (.ptr p1), some (.lst (strsD (keptL chk n1 k1 LF))), none, none] [4]) none (strsD (keptL chk n1 k1 LF)) μ = .ok (strsD ((keptL chk n1 k1 LF).filter (difZ n1 k1 LF))) μ := by
    have := lcL_pureG (tg := gSet 4) (nt := mTest (mOp oNe (mOp oIx (mOp oTGet (mUn (oFld nx ni "read") (mV 0)) (mTup (mCons (mUn (oFld nx ni "name") (mV 1)) (mCons (mV 4) mNil)))) (mC (.int 0))) (mOp oIx (mMeth (tbl1 14 m_Store_entry) "entry" 1 0 [0, 1] [] (mV 1) (mCons (mV 4) mNil) mNil) (mC (.int 0))))) (me := mV 4) (δ := wipeD [some (.ptr f), some (.ptr p1), some (.lst (strsD (keptL chk n1 k1 LF))), none, none] [4]) (ds := strsD (keptL chk n1 k1 LF)) (μ := μ) (gd := none) (fun i o e => (nomatch e)) (fun d => match d with | .str y => difZ n1 k1 LF y | _ => false) id (by
      intro d hd
      obtain ⟨y, hy, rfl⟩ := List.mem_map.mp hd
      obtain ⟨e, t, k, a, r1, r2, r3, hz⟩ := kept_mem hy hF h1
      have en := e_entry s1 hz
      rw [r2] at en
      have en : m_Store_entry [.ptr p1, .str y] μ = .ok (.tup [.str t, .bl k, .int a]) μ := en
      have hv := val_mk (f := fF) (L := LF) (nm := n1) (z := y)
      rw [r1] at hv
      have hv : valT (LF.map (mkE fF)) (kyT n1 y) = some (.tup [.str e.t, .int e.a, .tup e.rows]) := hv
      have x0 : L2.atI [Dt.str t, .bl k, .int a] 0 = some (.str t) := rfl
      have y0 : L2.atI [Dt.str e.t, .int e.a, .tup e.rows] 0 = some (.str e.t) := rfl
      have hd : difZ n1 k1 LF y = !(e.t == t) := by
        unfold difZ
        rw [r1, r3]
        rfl
      refine ⟨[some (.ptr f), some (.ptr p1), some (.lst (strsD (keptL chk n1 k1 LF))), none, some (.str y)], rfl, ?_, fun _ => rfl⟩
      show _ = R.ok (difZ n1 k1 LF y) μ
      rw [hd]
      simp (disch := first | assumption | omega | (simp; done) | (simp; omega)) [oFld_ptr, oFld_exc, insAt, mMeth_ap, dctAt, oDGet_ptr, oDIn_ptr, stPut_ptr, O_no, sTry_ap, oCatN_pl, bAppend_ptr, srcZ_lp, srcL_ptr, oSl_ptr, oIx_ptr, lstAt,  bCount_dot, bSplit_dot, bRpart_dot, bLstrip_dot, bJoin_dot, bJoin_none, oIx_lst, oIx_tup, oIx_scr, oIx_str, oSl_str, srcR1_int, srcR2_int, cLen_str, oAdd_str, oAdd_lst, oEq_int, oNe_int, oEq_str, oNe_str, mDef_ap, if_no, cLenD_ptr, fr, fn, oTGet, gq, key_of, hv, y0, so, lkm_entry, en, x0, -oFld_ptr])
    rw [this]
    unfold strsD
    rw [List.filter_map, List.map_id]
    rfl
  have hk : (keptL chk n1 k1 LF).length ≤ LF.length := by
    unfold keptL
    rw [List.length_map]
    exact List.length_filter_le _ _
  have hs : cSort [.lst (strsD ((keptL chk n1 k1 LF).filter (difZ n1 k1 LF)))] μ = .ok (.lst (strsD (staleL chk n1 k1 LF))) μ := by
    have hl2 : ((keptL chk n1 k1 LF).filter (difZ n1 k1 LF)).length < 64 := Nat.lt_of_le_of_lt (List.length_filter_le _ _) (by omega)
    simp only [cSort, asL_lst, Option.bind_some, asT_strs]
    exact if_pos hl2
  unfold m_Forms_stale
  rw [mDef_ap (by rfl)]
  refine Eq.trans (b := O.out (.rt (.lst (strsD (staleL chk n1 k1 LF))) μ)) (congrArg O.out ?_) rfl
  refine seq_step hl ?_
  have hk3 : (keptL chk n1 k1 LF).length ≤ 1000000 := by omega
  generalize staleL chk n1 k1 LF = SS at *
  clear hl hb hf
  generalize (keptL chk n1 k1 LF).filter (difZ n1 k1 LF) = K2 at *
  generalize keptL chk n1 k1 LF = K1 at *
  simp (disch := first | assumption | omega | (simp; done) | (simp; omega)) [oFld_ptr, oFld_exc, insAt, mMeth_ap, dctAt, oDGet_ptr, oDIn_ptr, stPut_ptr, O_no, sTry_ap, oCatN_pl, bAppend_ptr, srcZ_lp, srcL_ptr, oSl_ptr, oIx_ptr, lstAt,  bCount_dot, bSplit_dot, bRpart_dot, bLstrip_dot, bJoin_dot, bJoin_none, oIx_lst, oIx_tup, oIx_scr, oIx_str, oSl_str, srcR1_int, srcR2_int, cLen_str, oAdd_str, oAdd_lst, oEq_int, oNe_int, oEq_str, oNe_str, mDef_ap, if_no, cLenD_ptr, h2, hs, hk3]
end

/-! law k15: drawn texts, deeds -/
theorem kl : kitB "list" "list" = some true := by decide +kernel
def textF (N : Int) : Str := textsD.getD (N.fmod 11).toNat ""
theorem textF_at (N : Int) : L2.atI (strsD textsD) (N.fmod 11) = some (.str (textF N)) ∧ textF N ∈ textsD := by
  have b1 := fmod_lt (a := N) (b := 11) (by decide)
  have hn : (N.fmod 11).toNat < textsD.length := by
    have : textsD.length = 11 := rfl
    omega
  have e0 : ((N.fmod 11).toNat : Int) = N.fmod 11 := by omega
  have e1 : textF N = textsD[(N.fmod 11).toNat] := by
    unfold textF
    rw [List.getD_eq_getElem?_getD, List.getElem?_eq_getElem hn]
    rfl
  have := atI_nat (xs := strsD textsD) (j := (N.fmod 11).toNat) (v := .str (textF N)) (by rw [strsD, List.getElem?_map, List.getElem?_eq_getElem hn, e1]; rfl)
  rw [e0] at this
  exact ⟨this, by rw [e1]; exact List.getElem_mem hn⟩
theorem textF_in (N : Int) : textF N ∈ textsL := List.mem_append_left _ (textF_at N).2
theorem e_text {μ : Mem} {P : Nat} {n : Int} (h : μ[P]? = some (.lst [.int n])) : m_law_text_drawn [.ptr P] μ = .ok (.str (textF n)) (μ.set P (.lst [.int (n.fdiv 11)])) := by
  have t1 := e_take h (k := 11) (by decide) (by decide)
  have e := (textF_at n).1
  unfold m_law_text_drawn
  simp only [textsD, strsD, List.map_cons, List.map_nil] at e
  generalize textF n = T at e ⊢
  simp (disch := first | assumption | omega | (simp; done) | (simp; omega)) [oFld_ptr, oFld_exc, insAt, mMeth_ap, dctAt, oDGet_ptr, oDIn_ptr, stPut_ptr, O_no, sTry_ap, oCatN_pl, bAppend_ptr, srcZ_lp, srcL_ptr, oSl_ptr, oIx_ptr, lstAt,  bCount_dot, bSplit_dot, bRpart_dot, bLstrip_dot, bJoin_dot, bJoin_none, oIx_lst, oIx_tup, oIx_scr, oIx_str, oSl_str, srcR1_int, srcR2_int, cLen_str, oAdd_str, oAdd_lst, oEq_int, oNe_int, oEq_str, oNe_str, mDef_ap, if_no, cLenD_ptr, t1, e]
def dz (N : Int) : Str := (["a", "b", "a.b"] : List Str).getD (N.fmod 3).toNat ""
theorem dz_at (N : Int) : L2.atI [Dt.str "a", .str "b", .str "a.b"] (N.fmod 3) = some (.str (dz N)) ∧ nameS (dz N) = true := by
  have b4 := fmod_lt (a := N) (b := 3) (by decide)
  unfold dz
  have : N.fmod 3 = 0 ∨ N.fmod 3 = 1 ∨ N.fmod 3 = 2 := by omega
  rcases this with e | e | e <;> rw [e]
  · exact ⟨rfl, by decide +kernel⟩
  · exact ⟨rfl, by decide +kernel⟩
  · exact ⟨rfl, by decide +kernel⟩
def dKV (N a : Int) (kv : List (Key × Dt)) : List (Key × Dt) := if 0 < (N.fdiv 3).fmod 4 then putKD kv (.inr (dz N)) (tpD (textF ((N.fdiv 3).fdiv 4)) false a) else if (valD kv (.inr (dz N))).isSome = true then dropKD kv (.inr (dz N)) else kv
def dC (N a : Int) (kv : List (Key × Dt)) (c : Int) : Int := if 0 < (N.fdiv 3).fmod 4 then a else if (valD kv (.inr (dz N))).isSome = true then a else c
section
variable {μ : Mem} {P p b : Nat} {nm : Str} {kvs : List (Key × Dt)} {c N a : Int}
theorem e_deed (hP : μ[P]? = some (.lst [.int N])) (s : SAt μ p b nm kvs c) (gk : GoodK kvs) (hl : kvs.length ≤ 1000) :
    ∃ o, m_law_deed [.ptr P, .ptr p, .int a] μ = .ok (.str (dz N)) (((μ.set P o).set b (.dK (dKV N a kvs))).set p (.ins 14 (stF nm b (dC N a kvs c)))) := by
  have h1 : P ≠ p := at_ne hP s.o (by simp)
  have h2 : P ≠ b := at_ne hP s.d (by simp)
  have hpb : p ≠ b := at_ne s.o s.d (by simp)
  have t1 := e_take hP (k := 3) (by decide) (by decide)
  obtain ⟨z1, zok⟩ := dz_at N
  have p1 := set_at (u := .lst [.int (N.fdiv 3)]) hP
  have t2 := e_take p1 (k := 4) (by decide) (by decide)
  have p2 := set_at (u := .lst [.int ((N.fdiv 3).fdiv 4)]) p1
  have t3 := e_text p2
  rw [List.set_set] at t2 t3 p2
  rw [List.set_set] at t3
  have s2 : SAt (μ.set P (.lst [.int ((N.fdiv 3).fdiv 4)])) p b nm kvs c := s.set h1 h2
  have s3 : SAt (μ.set P (.lst [.int (((N.fdiv 3).fdiv 4).fdiv 11)])) p b nm kvs c := s.set h1 h2
  unfold dKV dC
  have tin := textF_in ((N.fdiv 3).fdiv 4)
  generalize textF ((N.fdiv 3).fdiv 4) = T at *
  generalize dz N = z at *
  generalize N.fmod 3 = i1 at *
  generalize (N.fdiv 3).fmod 4 = way at *
  generalize hM1 : μ.set P (.lst [.int (N.fdiv 3)]) = M1 at *
  by_cases cw : 0 < way
  · simp only [cw, if_true]
    have tl := texts_len _ tin
    have e := e_put (k := false) (a := a) (t := T) s3 zok (by omega) hpb (Nat.le_trans hl (by decide))
    refine ⟨.lst [.int (((N.fdiv 3).fdiv 4).fdiv 11)], ?_⟩
    unfold tpD
    generalize hM2 : μ.set P (.lst [.int ((N.fdiv 3).fdiv 4)]) = M2 at *
    generalize hM3 : μ.set P (.lst [.int (((N.fdiv 3).fdiv 4).fdiv 11)]) = M3 at *
    have so := s3.o
    have so2 := s2.o
    generalize ((M3.set b (.dK (putKD kvs (.inr z) (.tup [.str T, .bl false, .int a])))).set p (.ins 14 (stF nm b a))) = M4 at *
    clear s s2 s3 hP p1 p2 hM1 hM2 hM3
    unfold m_law_deed
    rw [mDef_ap (by rfl)]
    refine Eq.trans (b := O.out (.rt (.str z) M4)) (congrArg O.out ?_) rfl
    refine seq_step (δ1 := [some (.ptr P), some (.ptr p), some (.int a), some (.str z)]) (μ1 := M1) (by simp (disch := first | assumption | omega | (simp; done) | (simp; omega)) [oFld_ptr, oFld_exc, insAt, mMeth_ap, dctAt, oDGet_ptr, oDIn_ptr, stPut_ptr, O_no, sTry_ap, oCatN_pl, bAppend_ptr, srcZ_lp, srcL_ptr, oSl_ptr, oIx_ptr, lstAt,  bCount_dot, bSplit_dot, bRpart_dot, bLstrip_dot, bJoin_dot, bJoin_none, oIx_lst, oIx_tup, oIx_scr, oIx_str, oSl_str, srcR1_int, srcR2_int, cLen_str, oAdd_str, oAdd_lst, oEq_int, oNe_int, oEq_str, oNe_str, mDef_ap, if_no, cLenD_ptr, t1, z1, -strsD_cons]) ?_
    refine seq_step (δ1 := [some (.ptr P), some (.ptr p), some (.int a), some (.str z)]) (μ1 := M4) (by simp (disch := first | assumption | omega | (simp; done) | (simp; omega)) [oFld_ptr, oFld_exc, insAt, mMeth_ap, dctAt, oDGet_ptr, oDIn_ptr, stPut_ptr, O_no, sTry_ap, oCatN_pl, bAppend_ptr, srcZ_lp, srcL_ptr, oSl_ptr, oIx_ptr, lstAt,  bCount_dot, bSplit_dot, bRpart_dot, bLstrip_dot, bJoin_dot, bJoin_none, oIx_lst, oIx_tup, oIx_scr, oIx_str, oSl_str, srcR1_int, srcR2_int, cLen_str, oAdd_str, oAdd_lst, oEq_int, oNe_int, oEq_str, oNe_str, mDef_ap, if_no, cLenD_ptr, t2, cw, t3, so, so2, lkm_put, e, -oFld_ptr]) ?_
    simp (disch := first | assumption | omega | (simp; done) | (simp; omega)) [oFld_ptr, oFld_exc, insAt, mMeth_ap, dctAt, oDGet_ptr, oDIn_ptr, stPut_ptr, O_no, sTry_ap, oCatN_pl, bAppend_ptr, srcZ_lp, srcL_ptr, oSl_ptr, oIx_ptr, lstAt,  bCount_dot, bSplit_dot, bRpart_dot, bLstrip_dot, bJoin_dot, bJoin_none, oIx_lst, oIx_tup, oIx_scr, oIx_str, oSl_str, srcR1_int, srcR2_int, cLen_str, oAdd_str, oAdd_lst, oEq_int, oNe_int, oEq_str, oNe_str, mDef_ap, if_no, cLenD_ptr]
  · simp only [cw, if_false]
    refine ⟨.lst [.int ((N.fdiv 3).fdiv 4)], ?_⟩
    generalize hM2 : μ.set P (.lst [.int ((N.fdiv 3).fdiv 4)]) = M2 at *
    have so := s2.o
    have e := e_entry s2 zok
    cases hv : valD kvs (.inr z) with
    | none =>
      rw [hv] at e
      simp only [Option.isSome_none, Bool.false_eq_true, if_false]
      rw [set_self s2.d, set_self s2.o]
      clear s s2 hP p1 p2 hM1 hM2
      unfold m_law_deed
      rw [mDef_ap (by rfl)]
      refine Eq.trans (b := O.out (.rt (.str z) M2)) (congrArg O.out ?_) rfl
      refine seq_step (δ1 := [some (.ptr P), some (.ptr p), some (.int a), some (.str z)]) (μ1 := M1) (by simp (disch := first | assumption | omega | (simp; done) | (simp; omega)) [oFld_ptr, oFld_exc, insAt, mMeth_ap, dctAt, oDGet_ptr, oDIn_ptr, stPut_ptr, O_no, sTry_ap, oCatN_pl, bAppend_ptr, srcZ_lp, srcL_ptr, oSl_ptr, oIx_ptr, lstAt,  bCount_dot, bSplit_dot, bRpart_dot, bLstrip_dot, bJoin_dot, bJoin_none, oIx_lst, oIx_tup, oIx_scr, oIx_str, oSl_str, srcR1_int, srcR2_int, cLen_str, oAdd_str, oAdd_lst, oEq_int, oNe_int, oEq_str, oNe_str, mDef_ap, if_no, cLenD_ptr, t1, z1, -strsD_cons]) ?_
      refine seq_step (δ1 := [some (.ptr P), some (.ptr p), some (.int a), some (.str z)]) (μ1 := M2) (by simp (disch := first | assumption | omega | (simp; done) | (simp; omega)) [oFld_ptr, oFld_exc, insAt, mMeth_ap, dctAt, oDGet_ptr, oDIn_ptr, stPut_ptr, O_no, sTry_ap, oCatN_pl, bAppend_ptr, srcZ_lp, srcL_ptr, oSl_ptr, oIx_ptr, lstAt,  bCount_dot, bSplit_dot, bRpart_dot, bLstrip_dot, bJoin_dot, bJoin_none, oIx_lst, oIx_tup, oIx_scr, oIx_str, oSl_str, srcR1_int, srcR2_int, cLen_str, oAdd_str, oAdd_lst, oEq_int, oNe_int, oEq_str, oNe_str, mDef_ap, if_no, cLenD_ptr, t2, cw, so, lkm_entry, e, DM.isNon, -oFld_ptr]) ?_
      simp (disch := first | assumption | omega | (simp; done) | (simp; omega)) [oFld_ptr, oFld_exc, insAt, mMeth_ap, dctAt, oDGet_ptr, oDIn_ptr, stPut_ptr, O_no, sTry_ap, oCatN_pl, bAppend_ptr, srcZ_lp, srcL_ptr, oSl_ptr, oIx_ptr, lstAt,  bCount_dot, bSplit_dot, bRpart_dot, bLstrip_dot, bJoin_dot, bJoin_none, oIx_lst, oIx_tup, oIx_scr, oIx_str, oSl_str, srcR1_int, srcR2_int, cLen_str, oAdd_str, oAdd_lst, oEq_int, oNe_int, oEq_str, oNe_str, mDef_ap, if_no, cLenD_ptr]
    | some d =>
      obtain ⟨t, k, a', rfl, _⟩ := gk.val hv
      rw [hv] at e
      simp only [Option.isSome_some, if_true]
      have e2 := e_take_s (a := a) s2 zok hv hpb
      generalize ((M2.set b (.dK (dropKD kvs (.inr z)))).set p (.ins 14 (stF nm b a))) = M4 at *
      clear s s2 hP p1 p2 hM1 hM2
      unfold m_law_deed
      rw [mDef_ap (by rfl)]
      refine Eq.trans (b := O.out (.rt (.str z) M4)) (congrArg O.out ?_) rfl
      refine seq_step (δ1 := [some (.ptr P), some (.ptr p), some (.int a), some (.str z)]) (μ1 := M1) (by simp (disch := first | assumption | omega | (simp; done) | (simp; omega)) [oFld_ptr, oFld_exc, insAt, mMeth_ap, dctAt, oDGet_ptr, oDIn_ptr, stPut_ptr, O_no, sTry_ap, oCatN_pl, bAppend_ptr, srcZ_lp, srcL_ptr, oSl_ptr, oIx_ptr, lstAt,  bCount_dot, bSplit_dot, bRpart_dot, bLstrip_dot, bJoin_dot, bJoin_none, oIx_lst, oIx_tup, oIx_scr, oIx_str, oSl_str, srcR1_int, srcR2_int, cLen_str, oAdd_str, oAdd_lst, oEq_int, oNe_int, oEq_str, oNe_str, mDef_ap, if_no, cLenD_ptr, t1, z1, -strsD_cons]) ?_
      refine seq_step (δ1 := [some (.ptr P), some (.ptr p), some (.int a), some (.str z)]) (μ1 := M4) (by simp (disch := first | assumption | omega | (simp; done) | (simp; omega)) [oFld_ptr, oFld_exc, insAt, mMeth_ap, dctAt, oDGet_ptr, oDIn_ptr, stPut_ptr, O_no, sTry_ap, oCatN_pl, bAppend_ptr, srcZ_lp, srcL_ptr, oSl_ptr, oIx_ptr, lstAt,  bCount_dot, bSplit_dot, bRpart_dot, bLstrip_dot, bJoin_dot, bJoin_none, oIx_lst, oIx_tup, oIx_scr, oIx_str, oSl_str, srcR1_int, srcR2_int, cLen_str, oAdd_str, oAdd_lst, oEq_int, oNe_int, oEq_str, oNe_str, mDef_ap, if_no, cLenD_ptr, t2, cw, so, lkm_entry, lkm_take, e, e2, tpD, DM.isNon, -oFld_ptr]) ?_
      simp (disch := first | assumption | omega | (simp; done) | (simp; omega)) [oFld_ptr, oFld_exc, insAt, mMeth_ap, dctAt, oDGet_ptr, oDIn_ptr, stPut_ptr, O_no, sTry_ap, oCatN_pl, bAppend_ptr, srcZ_lp, srcL_ptr, oSl_ptr, oIx_ptr, lstAt,  bCount_dot, bSplit_dot, bRpart_dot, bLstrip_dot, bJoin_dot, bJoin_none, oIx_lst, oIx_tup, oIx_scr, oIx_str, oSl_str, srcR1_int, srcR2_int, cLen_str, oAdd_str, oAdd_lst, oEq_int, oNe_int, oEq_str, oNe_str, mDef_ap, if_no, cLenD_ptr]
end
/-! what is read -/
open Classical in
noncomputable def badRow (t : Str) : Int := if h : ∃ n : Int, ∀ μ, m_read_body [.str t] μ = .ex 5 ["trail", "row"] [.ktp [], .int n] μ then Classical.choose h else 0
theorem body_bad {t : Str} (ht : t ∈ textsL) (hg : goodT t = false) (μ : Mem) : m_read_body [.str t] μ = .ex 5 ["trail", "row"] [.ktp [], .int (badRow t)] μ := by
  have h := body_no ht hg
  unfold badRow
  rw [dif_pos h]
  exact Classical.choose_spec h μ
noncomputable def readV (t : Str) : Dt := if goodT t = true then .lst (rowsD t) else .int (badRow t)
theorem nx_row : nx 5 "row" = true := by decide +kernel
section
variable {μ : Mem} {f r p b : Nat} {chk z t : Str} {kvs : List (Key × Dt)} {L : List Ent} {made c a : Int} {k : Bool}
theorem f_row {n : Int} : oFld nx ni "row" (.exc 5 ["trail", "row"] [.ktp [], .int n]) μ = .ok (.int n) μ := by
  rw [oFld_exc]
  simp only [nx_row, if_true]
  rfl
theorem e_lread (ht : t ∈ textsL) : m_law_read [.str t] μ = .ok (readV t) μ := by
  unfold m_law_read readV
  have hq : cqSelf 5 5 = some true := rfl
  cases hg : goodT t with
  | true =>
    have e := body_yes (μ := μ) ht hg
    generalize rowsD t = RR at *
    simp (disch := first | assumption | omega | (simp; done) | (simp; omega)) [oFld_ptr, oFld_exc, insAt, mMeth_ap, dctAt, oDGet_ptr, oDIn_ptr, stPut_ptr, O_no, sTry_ap, oCatN_pl, bAppend_ptr, srcZ_lp, srcL_ptr, oSl_ptr, oIx_ptr, lstAt,  bCount_dot, bSplit_dot, bRpart_dot, bLstrip_dot, bJoin_dot, bJoin_none, oIx_lst, oIx_tup, oIx_scr, oIx_str, oSl_str, srcR1_int, srcR2_int, cLen_str, oAdd_str, oAdd_lst, oEq_int, oNe_int, oEq_str, oNe_str, mDef_ap, if_no, cLenD_ptr, sTry_ap, e]
  | false =>
    have e := body_bad ht hg μ
    have fr := f_row (μ := μ) (n := badRow t)
    generalize badRow t = BB at *
    simp (disch := first | assumption | omega | (simp; done) | (simp; omega)) [oFld_ptr, oFld_exc, insAt, mMeth_ap, dctAt, oDGet_ptr, oDIn_ptr, stPut_ptr, O_no, sTry_ap, oCatN_pl, bAppend_ptr, srcZ_lp, srcL_ptr, oSl_ptr, oIx_ptr, lstAt,  bCount_dot, bSplit_dot, bRpart_dot, bLstrip_dot, bJoin_dot, bJoin_none, oIx_lst, oIx_tup, oIx_scr, oIx_str, oSl_str, srcR1_int, srcR2_int, cLen_str, oAdd_str, oAdd_lst, oEq_int, oNe_int, oEq_str, oNe_str, mDef_ap, if_no, cLenD_ptr, sTry_ap, e, hq, fr, -oFld_exc]
noncomputable def frD (chk : Str) (L : List Ent) (kvs : List (Key × Dt)) (z : Str) : Dt := match lies kvs z with
  | none => .str "none"
  | some x => if holdE chk (findE L "one" z) (some x) = true then (match findE L "one" z with
    | some e => .lst e.rows
    | none => .non) else readV x.1
def frL (chk : Str) (L : List Ent) (kvs : List (Key × Dt)) (z : Str) : List Ent := match lies kvs z with
  | none => L
  | some x => if holdE chk (findE L "one" z) (some x) = true then L else if goodT x.1 = true then putE L ⟨"one", z, x.1, x.2, wordsT x.1⟩ else L
def frM (chk : Str) (L : List Ent) (kvs : List (Key × Dt)) (z : Str) (m : Int) : Int := match lies kvs z with
  | none => m
  | some x => if holdE chk (findE L "one" z) (some x) = true then m else if goodT x.1 = true then m + 1 else m
theorem sTry2_ok {cq cq2 : Nat → Option Bool} {i : Nat} {b s s2 : MS} {δ δ' : DM.Env} {M : Mem} (h : b δ μ = .nx δ' M) : sTry2 cq i cq2 b s s2 δ μ = .nx δ' M := by
  unfold sTry2
  rw [h]
theorem e_formed (w : FE μ f r chk L made) (hck : chk = "stamp" ∨ chk = "sum") (gl : GoodL L) (gk : GoodK kvs) (s : SAt μ p b "one" kvs c) (hz : nameS z = true) (hlen : L.length ≤ 1000) :
    m_law_formed [.ptr f, .ptr p, .str z] μ = .ok (frD chk L kvs z) (memF μ f r chk (frL chk L kvs z) (frM chk L kvs z made)) := by
  have so := s.o
  have fo := w.o
  have q56 : cqTwo 5 6 6 = some false := by decide
  have q55 : cqTwo 5 6 5 = some true := by decide
  have q66 : cqTwo 6 5 6 = some true := by decide
  unfold m_law_formed
  cases hl : valD kvs (.inr z) with
  | none =>
    have ef := e_formF w s hz hl
    unfold frD frL frM
    simp only [lies_none hl, memF_self w]
    clear w s
    simp (disch := first | assumption | omega | (simp; done) | (simp; omega)) [oFld_ptr, oFld_exc, insAt, mMeth_ap, dctAt, oDGet_ptr, oDIn_ptr, stPut_ptr, O_no, sTry_ap, oCatN_pl, bAppend_ptr, srcZ_lp, srcL_ptr, oSl_ptr, oIx_ptr, lstAt,  bCount_dot, bSplit_dot, bRpart_dot, bLstrip_dot, bJoin_dot, bJoin_none, oIx_lst, oIx_tup, oIx_scr, oIx_str, oSl_str, srcR1_int, srcR2_int, cLen_str, oAdd_str, oAdd_lst, oEq_int, oNe_int, oEq_str, oNe_str, mDef_ap, if_no, cLenD_ptr, sTry2, fo, lkf_form, ef, q56, q66]
  | some d =>
    obtain ⟨t, k, a, rfl, ht⟩ := gk.val hl
    have hls := lies_some hl
    unfold frD frL frM
    simp only [hls]
    cases hh : holdE chk (findE L "one" z) (some (t, a)) with
    | true =>
      obtain ⟨e, he⟩ : ∃ e, findE L "one" z = some e := by
        cases hf : findE L "one" z with
        | none =>
          rw [hf] at hh
          cases hh
        | some e => exact ⟨e, rfl⟩
      have ef := e_formH w hck gl gk s hz hl he (by rw [hls]; exact hh)
      simp only [he, if_true, memF_self w]
      clear w s
      generalize e.rows = RR at *
      simp (disch := first | assumption | omega | (simp; done) | (simp; omega)) [oFld_ptr, oFld_exc, insAt, mMeth_ap, dctAt, oDGet_ptr, oDIn_ptr, stPut_ptr, O_no, sTry_ap, oCatN_pl, bAppend_ptr, srcZ_lp, srcL_ptr, oSl_ptr, oIx_ptr, lstAt,  bCount_dot, bSplit_dot, bRpart_dot, bLstrip_dot, bJoin_dot, bJoin_none, oIx_lst, oIx_tup, oIx_scr, oIx_str, oSl_str, srcR1_int, srcR2_int, cLen_str, oAdd_str, oAdd_lst, oEq_int, oNe_int, oEq_str, oNe_str, mDef_ap, if_no, cLenD_ptr, sTry2, fo, lkf_form, ef]
    | false =>
      simp only [Bool.false_eq_true, if_false]
      unfold readV
      cases hg : goodT t with
      | true =>
        have ef := e_formG w hck gl gk s hz hl ht hg (by rw [hls]; exact hh) hlen
        simp only [if_true]
        generalize memF μ f r chk _ _ = M1 at *
        generalize rowsD t = RR at *
        clear w s
        simp (disch := first | assumption | omega | (simp; done) | (simp; omega)) [oFld_ptr, oFld_exc, insAt, mMeth_ap, dctAt, oDGet_ptr, oDIn_ptr, stPut_ptr, O_no, sTry_ap, oCatN_pl, bAppend_ptr, srcZ_lp, srcL_ptr, oSl_ptr, oIx_ptr, lstAt,  bCount_dot, bSplit_dot, bRpart_dot, bLstrip_dot, bJoin_dot, bJoin_none, oIx_lst, oIx_tup, oIx_scr, oIx_str, oSl_str, srcR1_int, srcR2_int, cLen_str, oAdd_str, oAdd_lst, oEq_int, oNe_int, oEq_str, oNe_str, mDef_ap, if_no, cLenD_ptr, sTry2, fo, lkf_form, ef]
      | false =>
        have ef := e_formN w hck gl gk s hz hl (body_bad ht hg) (by rw [hls]; exact hh)
        simp only [Bool.false_eq_true, if_false, memF_self w]
        have fr := f_row (μ := μ) (n := badRow t)
        clear w s
        generalize badRow t = BB at *
        simp (disch := first | assumption | omega | (simp; done) | (simp; omega)) [oFld_ptr, oFld_exc, insAt, mMeth_ap, dctAt, oDGet_ptr, oDIn_ptr, stPut_ptr, O_no, sTry_ap, oCatN_pl, bAppend_ptr, srcZ_lp, srcL_ptr, oSl_ptr, oIx_ptr, lstAt,  bCount_dot, bSplit_dot, bRpart_dot, bLstrip_dot, bJoin_dot, bJoin_none, oIx_lst, oIx_tup, oIx_scr, oIx_str, oSl_str, srcR1_int, srcR2_int, cLen_str, oAdd_str, oAdd_lst, oEq_int, oNe_int, oEq_str, oNe_str, mDef_ap, if_no, cLenD_ptr, sTry2, fo, lkf_form, ef, q55, fr, -oFld_exc]
end

/-! law k15: the world -/
structure S15 where
  kv0 : List (Key × Dt)
  c0 : Int
  kv1 : List (Key × Dt)
  c1 : Int
  L0 : List Ent
  m0 : Int
  L1 : List Ent
  m1 : Int
  L2 : List Ent
  m2 : Int
  ks : List (Key × Dt)
def os15 (n : Nat) (s : S15) : Mem := [.ins 14 (stF "one" (n + 1) s.c0), .dK s.kv0, .ins 14 (stF "one" (n + 3) s.c1), .dK s.kv1, .ins 16 (foF "sum" (n + 5) s.m0 (s.L0.length : Int)), .dT (s.L0.map (mkE fF)), .ins 16 (foF "stamp" (n + 7) s.m1 (s.L1.length : Int)), .dT (s.L1.map (mkE fF)), .ins 16 (foF "stamp" (n + 9) s.m2 (s.L2.length : Int)), .dT (s.L2.map (mkE fF)), .ins 15 [("known", .ptr (n + 11))], .dK s.ks]
def W15 (B : Mem) (s : S15) (ν : Mem) : Mem := B ++ (os15 B.length s ++ ν)
section
variable {B ν ξ : Mem} {s : S15} {kv : List (Key × Dt)} {c m : Int} {L : List Ent} {P : Nat} {o : MO}
theorem W_st0 : SAt (W15 B s ν) B.length (B.length + 1) "one" s.kv0 s.c0 := ⟨by simp [W15, os15], by simp [W15, os15]⟩
theorem W_st1 : SAt (W15 B s ν) (B.length + 2) (B.length + 3) "one" s.kv1 s.c1 := ⟨by simp [W15, os15], by simp [W15, os15]⟩
theorem W_f0 : FE (W15 B s ν) (B.length + 4) (B.length + 5) "sum" s.L0 s.m0 := ⟨by simp [W15, os15], by simp [W15, os15]⟩
theorem W_f1 : FE (W15 B s ν) (B.length + 6) (B.length + 7) "stamp" s.L1 s.m1 := ⟨by simp [W15, os15], by simp [W15, os15]⟩
theorem W_f2 : FE (W15 B s ν) (B.length + 8) (B.length + 9) "stamp" s.L2 s.m2 := ⟨by simp [W15, os15], by simp [W15, os15]⟩
theorem W_L : (W15 B s ν)[B.length + 10]? = some (.ins 15 [("known", .ptr (B.length + 11))]) := by simp [W15, os15]
theorem W_K : (W15 B s ν)[B.length + 11]? = some (.dK s.ks) := by simp [W15, os15]
theorem W_set0 : ((W15 B s ν).set (B.length + 1) (.dK kv)).set B.length (.ins 14 (stF "one" (B.length + 1) c)) = W15 B { s with kv0 := kv, c0 := c } ν := by simp [W15, os15]
theorem W_set1 : ((W15 B s ν).set (B.length + 3) (.dK kv)).set (B.length + 2) (.ins 14 (stF "one" (B.length + 3) c)) = W15 B { s with kv1 := kv, c1 := c } ν := by simp [W15, os15]
theorem W_m0 : memF (W15 B s ν) (B.length + 4) (B.length + 5) "sum" L m = W15 B { s with L0 := L, m0 := m } ν := by simp [memF, W15, os15]
theorem W_m1 : memF (W15 B s ν) (B.length + 6) (B.length + 7) "stamp" L m = W15 B { s with L1 := L, m1 := m } ν := by simp [memF, W15, os15]
theorem W_m2 : memF (W15 B s ν) (B.length + 8) (B.length + 9) "stamp" L m = W15 B { s with L2 := L, m2 := m } ν := by simp [memF, W15, os15]
theorem W_ks : (W15 B s ν).set (B.length + 11) (.dK kv) = W15 B { s with ks := kv } ν := by simp [W15, os15]
theorem W_app : W15 B s ν ++ ξ = W15 B s (ν ++ ξ) := by simp [W15]
theorem W_len : (W15 B s ν).length = B.length + 12 + ν.length := by simp [W15, os15]; omega
theorem W_pile : (W15 B s (ν ++ [o]))[(W15 B s ν).length]? = some o := by
  rw [← W_app]
  exact at_add0.trans rfl
theorem W_setp {o' : MO} : (W15 B s (ν ++ [o])).set (W15 B s ν).length o' = W15 B s (ν ++ [o']) := by
  rw [← W_app, ← W_app, set_add0]
  rfl
end
/-! lists -/
def fT (p : Int × List Str) : Dt := .tup [.int p.1, .tup (strsD p.2)]
theorem ni_known : ni 15 "known" = true := by decide +kernel
theorem f_known {μ : Mem} {L q : Nat} (h : μ[L]? = some (.ins 15 [("known", .ptr q)])) : oFld nx ni "known" (.ptr L) μ = .ok (.ptr q) μ := by
  rw [oFld_ptr]
  have : List.lookup (Str.ofString "known") [(Str.ofString "known", Dt.ptr q)] = some (.ptr q) := rfl
  simp [insAt, h, ni_known, this]
theorem cTup_strs {μ : Mem} {l : List Dt} : cTup [.lst l] μ = .ok (.tup l) μ := rfl
theorem cLst_tup {μ : Mem} {l : List Dt} : cLst [.tup l] μ = .ok (.lst l) μ := rfl
section
variable {μ : Mem} {L q p b : Nat} {nm : Str} {ks kvs : List (Key × Dt)} {c : Int}
/-- a list that is listed anew, or kept and as it is -/
theorem e_listed {kn : Option (Int × List Str)} (hL : μ[L]? = some (.ins 15 [("known", .ptr q)])) (hq : μ[q]? = some (.dK ks)) (hv : valD ks (.inr nm) = kn.map fT) (hk : ∀ x, kn = some x → x.1 = c → x.2 = sortT (namesK kvs)) (hl : ks.length ≤ 1000000) (hs : SAt μ p b nm kvs c) (ht : allT kvs) (hn : kvs.length < 64) :
    ∃ ks', m_Lists_listed [.ptr L, .ptr p] μ = .ok (.lst (strsD (sortT (namesK kvs)))) (μ.set q (.dK ks')) ∧ valD ks' (.inr nm) = some (fT (c, sortT (namesK kvs))) ∧ ks'.length ≤ ks.length + 1 := by
  have hnm := e_names hs ht hn
  unfold m_Lists_listed
  generalize hN : sortT (namesK kvs) = N at *
  have x1 : L2.atI [Dt.int c, .tup (strsD N)] 1 = some (.tup (strsD N)) := rfl
  have vp : valD (putKD ks (.inr nm) (fT (c, N))) (.inr nm) = some (fT (c, N)) := by rw [val_put, if_pos rfl]
  cases kn with
  | none =>
    have hv : valD ks (.inr nm) = none := hv
    refine ⟨putKD ks (.inr nm) (fT (c, N)), ?_, vp, len_put⟩
    simp (disch := first | assumption | omega | (simp; done) | (simp; omega)) [oFld_ptr, oFld_exc, insAt, mMeth_ap, dctAt, oDGet_ptr, oDIn_ptr, stPut_ptr, O_no, sTry_ap, oCatN_pl, bAppend_ptr, srcZ_lp, srcL_ptr, oSl_ptr, oIx_ptr, lstAt,  bCount_dot, bSplit_dot, bRpart_dot, bLstrip_dot, bJoin_dot, bJoin_none, oIx_lst, oIx_tup, oIx_scr, oIx_str, oSl_str, srcR1_int, srcR2_int, cLen_str, oAdd_str, oAdd_lst, oEq_int, oNe_int, oEq_str, oNe_str, mDef_ap, if_no, cLenD_ptr, f_known hL, f_name hs, f_changed hs, hq, hv, DM.isNon, hs.o, lkm_names, hnm, cTup_strs, x1, cLst_tup, fT, -oFld_ptr]
  | some o =>
    have x0 : L2.atI [Dt.int o.1, .tup (strsD o.2)] 0 = some (.int o.1) := rfl
    have x2 : L2.atI [Dt.int o.1, .tup (strsD o.2)] 1 = some (.tup (strsD o.2)) := rfl
    have hv' : valD ks (.inr nm) = some (.tup [.int o.1, .tup (strsD o.2)]) := hv
    by_cases c0 : o.1 = c
    · refine ⟨ks, ?_, ?_, Nat.le_succ _⟩
      · rw [set_self hq]
        have c0' : (o.1 == c) = true := by rw [c0]; exact beq_self_eq_true c
        have hN2 := hk o rfl c0
        rw [hN2] at hv' x2 x0
        simp (disch := first | assumption | omega | (simp; done) | (simp; omega)) [oFld_ptr, oFld_exc, insAt, mMeth_ap, dctAt, oDGet_ptr, oDIn_ptr, stPut_ptr, O_no, sTry_ap, oCatN_pl, bAppend_ptr, srcZ_lp, srcL_ptr, oSl_ptr, oIx_ptr, lstAt,  bCount_dot, bSplit_dot, bRpart_dot, bLstrip_dot, bJoin_dot, bJoin_none, oIx_lst, oIx_tup, oIx_scr, oIx_str, oSl_str, srcR1_int, srcR2_int, cLen_str, oAdd_str, oAdd_lst, oEq_int, oNe_int, oEq_str, oNe_str, mDef_ap, if_no, cLenD_ptr, f_known hL, f_name hs, f_changed hs, hq, hv', DM.isNon, x0, x2, c0', cLst_tup, -oFld_ptr]
      · rw [hv', ← c0, ← hk o rfl c0]
        rfl
    · refine ⟨putKD ks (.inr nm) (fT (c, N)), ?_, vp, len_put⟩
      have c0' : (o.1 == c) = false := by rw [beq_eq_false_iff_ne]; exact c0
      simp (disch := first | assumption | omega | (simp; done) | (simp; omega)) [oFld_ptr, oFld_exc, insAt, mMeth_ap, dctAt, oDGet_ptr, oDIn_ptr, stPut_ptr, O_no, sTry_ap, oCatN_pl, bAppend_ptr, srcZ_lp, srcL_ptr, oSl_ptr, oIx_ptr, lstAt,  bCount_dot, bSplit_dot, bRpart_dot, bLstrip_dot, bJoin_dot, bJoin_none, oIx_lst, oIx_tup, oIx_scr, oIx_str, oSl_str, srcR1_int, srcR2_int, cLen_str, oAdd_str, oAdd_lst, oEq_int, oNe_int, oEq_str, oNe_str, mDef_ap, if_no, cLenD_ptr, f_known hL, f_name hs, f_changed hs, hq, hv', DM.isNon, x0, c0', hs.o, lkm_names, hnm, cTup_strs, x1, cLst_tup, fT, -oFld_ptr]
end
/-! what is compared -/
theorem eqv_strs : ∀ l : List Str, PyData.eqvAll (l.map PyData.str) (l.map PyData.str) = true
  | [] => rfl
  | x :: r => by
    have := eqv_strs r
    simp [PyData.eqvAll, PyData.eqv, this]
theorem toPs_strs {μ : Mem} {n : Nat} : ∀ l : List Str, toPs (toPM μ n) (strsD l) = some (l.map PyData.str)
  | [] => rfl
  | x :: r => by
    have := toPs_strs (μ := μ) (n := n) r
    show toPs (toPM μ n) (Dt.str x :: strsD r) = _
    have e : toPM μ n (.str x) = some (.str x) := by cases n <;> rfl
    rw [toPs, e, this]
    rfl
theorem toPM_lst {μ : Mem} {l : List Str} : toPM μ 8 (.lst (strsD l)) = some (.list (l.map PyData.str)) := by
  rw [toPM, toPs_strs]
  rfl
theorem ne_strs {μ : Mem} {l : List Str} : oNe (.lst (strsD l)) (.lst (strsD l)) μ = .ok (.bl false) μ := by
  unfold oNe
  rw [toPM_lst]
  simp [PyData.eqv, eqv_strs]
theorem eq_strs {μ : Mem} {l : List Str} : oEq (.lst (strsD l)) (.lst (strsD l)) μ = .ok (.bl true) μ := by
  unfold oEq
  rw [toPM_lst]
  simp [PyData.eqv, eqv_strs]
def rowP (ls : List (List Str)) : List PyData := ls.map fun ws => .tuple (ws.map PyData.str)
theorem eqv_rows : ∀ l : List (List Str), PyData.eqvAll (rowP l) (rowP l) = true
  | [] => rfl
  | x :: r => by
    have h := eqv_rows r
    show (PyData.eqv (.tuple (x.map PyData.str)) (.tuple (x.map PyData.str)) && PyData.eqvAll (rowP r) (rowP r)) = true
    rw [h]
    simp [PyData.eqv, eqv_strs]
theorem toPs_rows {μ : Mem} {n : Nat} : ∀ l : List (List Str), toPs (toPM μ (n + 1)) (l.map rowD) = some (rowP l)
  | [] => rfl
  | x :: r => by
    have h := toPs_rows (μ := μ) (n := n) r
    show toPs (toPM μ (n + 1)) (rowD x :: r.map rowD) = _
    have e : toPM μ (n + 1) (rowD x) = some (.tuple (x.map PyData.str)) := by
      show (toPs (toPM μ n) (strsD x)).map PyData.tuple = _
      rw [toPs_strs]
      rfl
    rw [toPs, e, h]
    rfl
theorem toPM_rows {μ : Mem} {l : List (List Str)} : toPM μ 8 (.lst (l.map rowD)) = some (.list (rowP l)) := by
  rw [toPM, toPs_rows]
  rfl
def isPl (d : Dt) : Prop := (∃ ls : List (List Str), d = .lst (ls.map rowD)) ∨ (∃ i, d = .int i) ∨ ∃ x, d = .str x
theorem ne_pl {μ : Mem} {d : Dt} (h : isPl d) : oNe d d μ = .ok (.bl false) μ := by
  rcases h with ⟨ls, rfl⟩ | ⟨i, rfl⟩ | ⟨x, rfl⟩
  · unfold oNe
    rw [toPM_rows]
    simp [PyData.eqv, eqv_rows]
  · rw [oNe_int]
    simp
  · rw [oNe_str]
    simp
theorem eq_pl {μ : Mem} {d : Dt} (h : isPl d) : oEq d d μ = .ok (.bl true) μ := by
  rcases h with ⟨ls, rfl⟩ | ⟨i, rfl⟩ | ⟨x, rfl⟩
  · unfold oEq
    rw [toPM_rows]
    simp [PyData.eqv, eqv_rows]
  · rw [oEq_int]
    simp
  · rw [oEq_str]
    simp
theorem pl_read (t : Str) : isPl (readV t) := by
  unfold readV
  split
  · exact .inl ⟨_, rfl⟩
  · exact .inr (.inl ⟨_, rfl⟩)
/-! what forms keep -/
def GoodE (nm : Str) (L : List Ent) : Prop := ∀ e ∈ L, e.t ∈ textsL ∧ nameS e.z = true ∧ e.nm = nm ∧ goodT e.t = true ∧ e.ls = wordsT e.t
theorem GoodE.l {nm : Str} {L : List Ent} (h : GoodE nm L) : GoodL L := fun e he => ⟨(h e he).1, (h e he).2.1⟩
theorem mem_putE {L : List Ent} {e x : Ent} (h : x ∈ putE L e) : x ∈ L ∨ x = e := by
  unfold putE at h
  split at h
  · obtain ⟨y, hy, rfl⟩ := List.mem_map.mp h
    split
    · exact .inr rfl
    · exact .inl hy
  · rcases List.mem_append.mp h with h | h
    · exact .inl h
    · exact .inr (List.mem_singleton.mp h)
theorem find_putE {L : List Ent} {e : Ent} {nm z : Str} : findE (putE L e) nm z = if e.nm = nm ∧ e.z = z then some e else findE L nm z := by
  split
  · rename_i h
    obtain ⟨rfl, rfl⟩ := h
    exact find_put
  · rename_i h
    have hs : same nm z e = false := decide_eq_false h
    unfold findE putE
    split
    · rename_i hany
      clear hany
      induction L with
      | nil => rfl
      | cons x L ih =>
        rw [List.map_cons, List.find?_cons, List.find?_cons]
        have ih : (L.map fun x => if same e.nm e.z x = true then e else x).find? (same nm z) = L.find? (same nm z) := by
          clear ih
          induction L with
          | nil => rfl
          | cons y L ih =>
            rw [List.map_cons, List.find?_cons, List.find?_cons, ih]
            cases hy : same e.nm e.z y with
            | true =>
              have : same nm z y = false := by
                have := of_decide_eq_true hy
                exact decide_eq_false fun q => h ⟨this.1.symm.trans q.1, this.2.symm.trans q.2⟩
              simp only [if_true, hs, this]
            | false => simp only [Bool.false_eq_true, if_false]
        rw [ih]
        cases hy : same e.nm e.z x with
        | true =>
          have : same nm z x = false := by
            have := of_decide_eq_true hy
            exact decide_eq_false fun q => h ⟨this.1.symm.trans q.1, this.2.symm.trans q.2⟩
          simp only [if_true, hs, this]
        | false => simp only [Bool.false_eq_true, if_false]
    · rw [List.find?_append]
      simp [hs]
section
variable {chk z : Str} {L : List Ent} {kvs : List (Key × Dt)} {m : Int}
theorem frL_good (g : GoodE "one" L) (gk : GoodK kvs) (hz : nameS z = true) : GoodE "one" (frL chk L kvs z) := by
  unfold frL
  split
  · exact g
  · rename_i x hx
    split
    · exact g
    · split
      · rename_i hg
        obtain ⟨k, hv, ht⟩ := lies_val gk (t := x.1) (a := x.2) hx
        intro e he
        rcases mem_putE he with he | rfl
        · exact g e he
        · exact ⟨ht, hz, rfl, hg, rfl⟩
      · exact g
theorem frL_len : (frL chk L kvs z).length ≤ L.length + 1 := by
  unfold frL
  split
  · omega
  · split
    · omega
    · split
      · exact len_putE
      · omega
theorem frM_le : frM chk L kvs z m ≤ m + 1 := by
  unfold frM
  split
  · omega
  · split
    · omega
    · split <;> omega
/-- what is due -/
noncomputable def dueD (kvs : List (Key × Dt)) (z : Str) : Dt := match lies kvs z with
  | none => .str "none"
  | some x => readV x.1
theorem pl_due : isPl (dueD kvs z) := by
  unfold dueD
  split
  · exact .inr (.inr ⟨_, rfl⟩)
  · exact pl_read _
theorem pl_fr (g : GoodE "one" L) : isPl (frD chk L kvs z) := by
  unfold frD
  split
  · exact .inr (.inr ⟨_, rfl⟩)
  · rename_i x hx
    split
    · rename_i hh
      split
      · exact .inl ⟨_, rfl⟩
      · rename_i hf
        rw [hf] at hh
        cases hh
    · exact pl_read _
/-- a kept form has the text that lies there -/
def MatchE (chk : Str) (L : List Ent) (kvs : List (Key × Dt)) : Prop := ∀ z e t a, findE L "one" z = some e → lies kvs z = some (t, a) → holdE chk (some e) (some (t, a)) = true → e.t = t
theorem fr_due (g : GoodE "one" L) (h : MatchE chk L kvs) : frD chk L kvs z = dueD kvs z := by
  unfold frD dueD
  cases hl : lies kvs z with
  | none => rfl
  | some x =>
    obtain ⟨t, a⟩ := x
    dsimp only
    split
    · rename_i hh
      cases hf : findE L "one" z with
      | none =>
        rw [hf] at hh
        cases hh
      | some e =>
        rw [hf] at hh
        have et := h z e t a hf hl hh
        obtain ⟨_, _, _, h4, h5⟩ := g e (List.mem_of_find?_eq_some hf)
        dsimp only
        unfold readV Ent.rows rowsD
        rw [← et, if_pos h4, h5]
    · rfl
theorem match_sum : MatchE "sum" L kvs := fun z e t a _ _ h => by
  unfold holdE at h
  simpa using h
theorem stale_nil (h : MatchE chk L kvs) : staleL chk "one" kvs L = [] := by
  unfold staleL
  have : (keptL chk "one" kvs L).filter (difZ "one" kvs L) = [] := by
    refine List.filter_eq_nil_iff.mpr fun y hy => ?_
    obtain ⟨e, he, rfl⟩ := List.mem_map.mp hy
    obtain ⟨q1, q2⟩ := List.mem_filter.mp he
    rw [Bool.and_eq_true] at q2
    have q3 : holdE chk (findE L "one" e.z) (lies kvs e.z) = true := q2.2
    obtain ⟨e', t, a, r1, r2⟩ := hold_some q3
    rw [r1, r2] at q3
    have et := h _ e' t a r1 r2 q3
    unfold difZ differ
    rw [r1, r2]
    simp [et]
  rw [this]
  have := (sortT_perm []).length_eq
  exact List.eq_nil_of_length_eq_zero this
end

/-! law k15: a turn -/
structure Inv (own : Bool) (k : Nat) (s : S15) : Prop where
  e1 : s.kv1 = s.kv0
  e2 : s.c1 = s.c0
  e3 : s.L2 = s.L1
  e4 : s.m2 = s.m1
  gk : GoodK s.kv0
  lk : s.kv0.length ≤ k
  g0 : GoodE "one" s.L0
  l0 : s.L0.length ≤ k
  g1 : GoodE "one" s.L1
  l1 : s.L1.length ≤ k
  n0 : s.m0 ≤ (k : Int)
  n1 : s.m1 ≤ (k : Int)
  lks : s.ks.length ≤ k
  ow : own = true → (∀ z t a, lies s.kv0 z = some (t, a) → a ≤ (k : Int)) ∧ (∀ e ∈ s.L1, e.a ≤ (k : Int)) ∧ (∀ z e t a, findE s.L1 "one" z = some e → lies s.kv0 z = some (t, a) → e.a = a → e.t = t) ∧ s.c0 ≤ (k : Int) ∧ ∃ kn : Option (Int × List Str), valD s.ks (.inr "one") = kn.map fT ∧ ∀ x, kn = some x → x.1 ≤ (k : Int) ∧ (x.1 = s.c0 → x.2 = sortT (namesK s.kv0))
theorem GoodK.allT {kvs : List (Key × Dt)} (h : GoodK kvs) : allT kvs := fun x hx => by
  obtain ⟨s, t, k, a, e, _⟩ := h x hx
  exact ⟨s, by rw [e]⟩
section
variable {kv : List (Key × Dt)} {N a : Int} {own : Bool} {k : Nat} {s : S15}
theorem dKV_good (h : GoodK kv) : GoodK (dKV N a kv) := by
  unfold dKV
  split
  · exact h.put (textF_in _)
  · split
    · exact h.drop
    · exact h
theorem dKV_len : (dKV N a kv).length ≤ kv.length + 1 := by
  unfold dKV
  split
  · exact len_put
  · split
    · exact Nat.le_succ_of_le len_drop
    · exact Nat.le_succ _
theorem lies_put {z y t : Str} {b : Bool} : lies (putKD kv (.inr z) (tpD t b a)) y = if y = z then some (t, a) else lies kv y := by
  unfold lies
  rw [val_put]
  by_cases h : y = z
  · rw [if_pos (by rw [h]), if_pos h]
    rfl
  · rw [if_neg (fun q => h (Sum.inr.inj q)), if_neg h]
theorem lies_drop {z y : Str} : lies (dropKD kv (.inr z)) y = if y = z then none else lies kv y := by
  unfold lies
  rw [val_drop]
  by_cases h : y = z
  · rw [if_pos (by rw [h]), if_pos h]
    rfl
  · rw [if_neg (fun q => h (Sum.inr.inj q)), if_neg h]
/-- what lies is as it was, or was put now -/
theorem lies_dKV {y t : Str} {b : Int} (h : lies (dKV N a kv) y = some (t, b)) : lies kv y = some (t, b) ∨ b = a := by
  unfold dKV at h
  split at h
  · rw [lies_put] at h
    split at h
    · cases h
      exact .inr rfl
    · exact .inl h
  · split at h
    · rw [lies_drop] at h
      split at h
      · cases h
      · exact .inl h
    · exact .inl h
theorem dC_or : dC N a kv (c : Int) = a ∨ (dC N a kv c = c ∧ dKV N a kv = kv) := by
  unfold dC dKV
  split
  · exact .inl rfl
  · split
    · exact .inl rfl
    · exact .inr ⟨rfl, rfl⟩
theorem find_frL {kvs : List (Key × Dt)} {chk z y : Str} {L : List Ent} {e : Ent} (h : findE (frL chk L kvs z) "one" y = some e) : findE L "one" y = some e ∨ lies kvs y = some (e.t, e.a) := by
  unfold frL at h
  split at h
  · exact .inl h
  · rename_i x hx
    split at h
    · exact .inl h
    · split at h
      · rw [find_putE] at h
        split at h
        · rename_i q
          cases h
          right
          rw [← q.2]
          exact hx
        · exact .inl h
      · exact .inl h
theorem mem_frL {kvs : List (Key × Dt)} {chk z : Str} {L : List Ent} {e : Ent} (h : e ∈ frL chk L kvs z) : e ∈ L ∨ lies kvs z = some (e.t, e.a) := by
  unfold frL at h
  split at h
  · exact .inl h
  · rename_i x hx
    split at h
    · exact .inl h
    · split at h
      · rcases mem_putE h with h | rfl
        · exact .inl h
        · exact .inr hx
      · exact .inl h
/-- the state behind a turn -/
noncomputable def nextS (N a : Int) (s : S15) (ks' : List (Key × Dt)) : S15 :=
  ⟨dKV N a s.kv0, dC N a s.kv0 s.c0, dKV N a s.kv0, dC N a s.kv0 s.c0, frL "sum" s.L0 (dKV N a s.kv0) (dz N), frM "sum" s.L0 (dKV N a s.kv0) (dz N) s.m0, frL "stamp" s.L1 (dKV N a s.kv0) (dz N), frM "stamp" s.L1 (dKV N a s.kv0) (dz N) s.m1, frL "stamp" s.L1 (dKV N a s.kv0) (dz N), frM "stamp" s.L1 (dKV N a s.kv0) (dz N) s.m1, ks'⟩
theorem match_dKV (i : Inv true k s) (ha : a = (k : Int) + 1) : MatchE "stamp" s.L1 (dKV N a s.kv0) := fun z e t b hf hl hh => by
  obtain ⟨o1, o2, o3, _⟩ := i.ow rfl
  have hb : e.a = b := by
    unfold holdE at hh
    dsimp only at hh
    rw [if_neg cs3, Bool.and_eq_true] at hh
    exact eq_of_beq hh.1
  rcases lies_dKV hl with q | q
  · exact o3 z e t b hf q hb
  · have := o2 e (List.mem_of_find?_eq_some hf)
    omega
theorem match_frL (i : Inv true k s) (ha : a = (k : Int) + 1) {z : Str} : MatchE "stamp" (frL "stamp" s.L1 (dKV N a s.kv0) z) (dKV N a s.kv0) := fun y e t b hf hl hh => by
  rcases find_frL hf with q | q
  · exact match_dKV i ha y e t b q hl hh
  · rw [q] at hl
    cases hl
    rfl
theorem inv_next (i : Inv own k s) {ks' : List (Key × Dt)} (hks : ks'.length ≤ k + 1) (ha : own = true → a = (k : Int) + 1) (hk : own = true → valD ks' (.inr "one") = some (fT (dC N a s.kv0 s.c0, sortT (namesK (dKV N a s.kv0))))) : Inv own (k + 1) (nextS N a s ks') where
  e1 := rfl
  e2 := rfl
  e3 := rfl
  e4 := rfl
  gk := dKV_good i.gk
  lk := Nat.le_trans dKV_len (Nat.succ_le_succ i.lk)
  g0 := frL_good i.g0 (dKV_good i.gk) (dz_at N).2
  l0 := Nat.le_trans frL_len (Nat.succ_le_succ i.l0)
  g1 := frL_good i.g1 (dKV_good i.gk) (dz_at N).2
  l1 := Nat.le_trans frL_len (Nat.succ_le_succ i.l1)
  n0 := by
    have := @frM_le "sum" (dz N) s.L0 (dKV N a s.kv0) s.m0
    have := i.n0
    show frM "sum" s.L0 (dKV N a s.kv0) (dz N) s.m0 ≤ ((k + 1 : Nat) : Int)
    omega
  n1 := by
    have := @frM_le "stamp" (dz N) s.L1 (dKV N a s.kv0) s.m1
    have := i.n1
    show frM "stamp" s.L1 (dKV N a s.kv0) (dz N) s.m1 ≤ ((k + 1 : Nat) : Int)
    omega
  lks := hks
  ow := fun h => by
    subst h
    have ha := ha rfl
    obtain ⟨o1, o2, o3, o4, o5⟩ := i.ow rfl
    have hl : ∀ z t b, lies (dKV N a s.kv0) z = some (t, b) → b ≤ ((k + 1 : Nat) : Int) := fun z t b q => by
      rcases lies_dKV q with q | q
      · have := o1 z t b q
        omega
      · omega
    refine ⟨hl, fun e he => ?_, fun z e t b hf hlz hb => ?_, ?_, some (dC N a s.kv0 s.c0, sortT (namesK (dKV N a s.kv0))), hk rfl, fun x hx => ?_⟩
    · rcases mem_frL he with q | q
      · have := o2 e q
        omega
      · exact hl _ _ _ q
    · rcases find_frL hf with q | q
      · rcases lies_dKV hlz with q2 | q2
        · exact o3 z e t b q q2 hb
        · have := o2 e (List.mem_of_find?_eq_some q)
          omega
      · have hlz : lies (dKV N a s.kv0) z = some (t, b) := hlz
        rw [q] at hlz
        cases hlz
        rfl
    · show dC N a s.kv0 s.c0 ≤ ((k + 1 : Nat) : Int)
      rcases @dC_or s.kv0 N a s.c0 with q | q
      · omega
      · omega
    · cases hx
      refine ⟨?_, fun _ => rfl⟩
      rcases @dC_or s.kv0 N a s.c0 with q | q
      · show dC N a s.kv0 s.c0 ≤ ((k + 1 : Nat) : Int)
        omega
      · show dC N a s.kv0 s.c0 ≤ ((k + 1 : Nat) : Int)
        omega
end

/-! law k15: the turn and the history -/
section
variable {B ν : Mem} {s : S15} {ns : List Int} {own : Bool} {k : Nat} {st many : Int} {e9 e10 e11 e12 e13 e14 : Option Dt}
theorem SAt.as {μ : Mem} {p b : Nat} {nm : Str} {kvs kvs' : List (Key × Dt)} {c c' : Int} (h : SAt μ p b nm kvs c) (h1 : kvs = kvs') (h2 : c = c') : SAt μ p b nm kvs' c' := h1 ▸ h2 ▸ h
theorem lcL_two {g : MG} {e : MX} {δ δ1 δ2 : DM.Env} {x y u v : Dt} {M1 M2 M3 : Mem} (h1 : g x δ M1 = some δ1) (h2 : e δ1 M1 = .ok u M2) (h3 : g y δ M2 = some δ2) (h4 : e δ2 M2 = .ok v M3) : lcL g mYes e δ none [x, y] M1 = .ok [u, v] M3 := by
  have ok : ∀ M, okG none M := fun M n o h => (nomatch h)
  rw [lcL_cons (ok _), h1]
  simp only [mYes_ap, noX_ok, bind_ok, if_true, h2]
  rw [lcL_cons (ok _), h3]
  simp only [mYes_ap, noX_ok, bind_ok, if_true, h4]
  rw [lcL_nil (ok _)]
  rfl
theorem e_turn (i : Inv own k s) (hk : k < 30) (h0 : 0 ≤ st) (h1 : st ≤ 40) :
    ∃ s' ν' y9 y10 y11 y12 y13 y14, b_law_history_good_1 [some (.scr (ns.map Dt.int)), some (.int st), some (.int many), some (.bl own), some (.lst [.ptr B.length, .ptr (B.length + 2)]), some (.lst [.ptr (B.length + 4), .ptr (B.length + 6), .ptr (B.length + 8)]), some (.ptr (B.length + 10)), some (.int (k : Int)), some (.int (k : Int)), e9, e10, e11, e12, e13, e14] (W15 B s ν) = .nx [some (.scr (ns.map Dt.int)), some (.int st), some (.int many), some (.bl own), some (.lst [.ptr B.length, .ptr (B.length + 2)]), some (.lst [.ptr (B.length + 4), .ptr (B.length + 6), .ptr (B.length + 8)]), some (.ptr (B.length + 10)), some (.int ((k : Int) + 1)), some (.int (k : Int)), y9, y10, y11, y12, y13, y14] (W15 B s' ν') ∧ Inv own (k + 1) s' := by
  have hc := fun μ => e_cell (μ := μ) (ns := ns) (k := st + (k : Int)) (by omega) (by omega)
  generalize cellF ns (st + (k : Int)) = N at hc
  obtain ⟨a, hat, ha⟩ : ∃ a, L2.atI [Dt.int (((k : Int).fdiv 3).fmod 2), .int ((k : Int) + 1)] (own.toNat : Int) = some (.int a) ∧ (own = true → a = (k : Int) + 1) := by
    cases own with
    | true => exact ⟨(k : Int) + 1, rfl, fun _ => by omega⟩
    | false => exact ⟨_, rfl, fun h => (nomatch h)⟩
  have zok := (dz_at N).2
  have gk' : GoodK (dKV N a s.kv0) := dKV_good i.gk
  have lk' : (dKV N a s.kv0).length ≤ k + 1 := Nat.le_trans dKV_len (Nat.succ_le_succ i.lk)
  -- the two deeds
  obtain ⟨o1, d1⟩ := e_deed (a := a) (W_pile (B := B) (ν := ν) (s := s) (o := .lst [.int N])) W_st0 i.gk (Nat.le_trans i.lk (by omega))
  rw [W_setp, W_set0] at d1
  have hs1 : SAt (W15 B { s with kv0 := dKV N a s.kv0, c0 := dC N a s.kv0 s.c0 } (ν ++ [o1] ++ [.lst [.int N]])) (B.length + 2) (B.length + 3) "one" s.kv0 s.c0 := by
    exact (show SAt (W15 B { s with kv0 := dKV N a s.kv0, c0 := dC N a s.kv0 s.c0 } (ν ++ [o1] ++ [.lst [.int N]])) (B.length + 2) (B.length + 3) "one" s.kv1 s.c1 from W_st1).as i.e1 i.e2
  obtain ⟨o2, d2⟩ := e_deed (a := a) (W_pile (B := B) (ν := ν ++ [o1]) (s := { s with kv0 := dKV N a s.kv0, c0 := dC N a s.kv0 s.c0 }) (o := .lst [.int N])) hs1 i.gk (Nat.le_trans i.lk (by omega))
  rw [W_setp, W_set1] at d2
  generalize hν : ν ++ [o1] ++ [o2] = ν2 at d2
  generalize ν ++ [o1] = ν1 at d1 d2
  -- what comes of it
  have L0l := i.l0
  have L1l := i.l1
  have E3 := i.e3
  have E4 := i.e4
  have g0' := frL_good (chk := "sum") i.g0 gk' zok
  have g1' := frL_good (chk := "stamp") i.g1 gk' zok
  have fd0 : frD "sum" s.L0 (dKV N a s.kv0) (dz N) = dueD (dKV N a s.kv0) (dz N) := fr_due i.g0 match_sum
  have pl1 : isPl (frD "stamp" s.L1 (dKV N a s.kv0) (dz N)) := pl_fr i.g1
  have fd1 : own = true → frD "stamp" s.L1 (dKV N a s.kv0) (dz N) = dueD (dKV N a s.kv0) (dz N) := fun h => by
    subst h
    exact fr_due i.g1 (match_dKV i (ha rfl))
  have st0 : staleL "sum" "one" (dKV N a s.kv0) (frL "sum" s.L0 (dKV N a s.kv0) (dz N)) = [] := stale_nil match_sum
  have st1 : own = true → staleL "stamp" "one" (dKV N a s.kv0) (frL "stamp" s.L1 (dKV N a s.kv0) (dz N)) = [] := fun h => by
    subst h
    exact stale_nil (match_frL i (ha rfl))
  have len0 : (frL "sum" s.L0 (dKV N a s.kv0) (dz N)).length < 64 := Nat.lt_of_le_of_lt frL_len (by omega)
  have len1 : (frL "stamp" s.L1 (dKV N a s.kv0) (dz N)).length < 64 := Nat.lt_of_le_of_lt frL_len (by omega)
  have mm0 : frM "sum" s.L0 (dKV N a s.kv0) (dz N) s.m0 ≤ (k : Int) + 1 := Int.le_trans frM_le (by have := i.n0; omega)
  have mm1 : frM "stamp" s.L1 (dKV N a s.kv0) (dz N) s.m1 ≤ (k : Int) + 1 := Int.le_trans frM_le (by have := i.n1; omega)
  have mx : ¬ ((k : Int) + 1 < if frM "stamp" s.L1 (dKV N a s.kv0) (dz N) s.m1 > frM "sum" s.L0 (dKV N a s.kv0) (dz N) s.m0 then frM "stamp" s.L1 (dKV N a s.kv0) (dz N) s.m1 else frM "sum" s.L0 (dKV N a s.kv0) (dz N) s.m0) := by
    split <;> omega
  have inx := fun ks' h1 h2 => inv_next (N := N) (a := a) i (ks' := ks') h1 ha h2
  unfold nextS at inx
  have ksl := i.lks
  have kss : own = true → ∃ kn : Option (Int × List Str), valD s.ks (.inr "one") = kn.map fT ∧ ∀ x, kn = some x → x.1 = dC N a s.kv0 s.c0 → x.2 = sortT (namesK (dKV N a s.kv0)) := fun h => by
    subst h
    obtain ⟨_, _, _, _, kn, q1, q2⟩ := i.ow rfl
    refine ⟨kn, q1, fun x hx hc => ?_⟩
    obtain ⟨q3, q4⟩ := q2 x hx
    have ha := ha rfl
    rcases dC_or (kv := s.kv0) (N := N) (a := a) (c := s.c0) with q | q
    · omega
    · rw [q.2]
      exact q4 (by rw [hc, q.1])
  have I0 := i.g0.l
  have I1 := i.g1.l
  clear i
  generalize dC N a s.kv0 s.c0 = C at *
  generalize dKV N a s.kv0 = KV at *
  generalize dz N = z at *
  obtain ⟨kv0, c0, kv1, c1, L0, m0, L1, m1, LL2, m2, ks⟩ := s
  dsimp only at *
  subst E3 E4
  -- what lies
  have en := e_entry (W_st0 (B := B) (s := ⟨KV, C, KV, C, L0, m0, LL2, m2, LL2, m2, ks⟩) (ν := ν2)) zok
  have so := (W_st0 (B := B) (s := ⟨KV, C, KV, C, L0, m0, LL2, m2, LL2, m2, ks⟩) (ν := ν2)).o
  -- the forms
  have f0 := e_formed (W_f0 (B := B) (s := ⟨KV, C, KV, C, L0, m0, LL2, m2, LL2, m2, ks⟩) (ν := ν2)) (.inr rfl) I0 gk' W_st0 zok (by (try dsimp only); omega)
  rw [W_m0] at f0
  dsimp only at f0
  have f1 := e_formed (W_f1 (B := B) (s := ⟨KV, C, KV, C, frL "sum" L0 KV z, frM "sum" L0 KV z m0, LL2, m2, LL2, m2, ks⟩) (ν := ν2)) (.inl rfl) I1 gk' W_st0 zok (by (try dsimp only); omega)
  rw [W_m1] at f1
  dsimp only at f1
  have f2 := e_formed (W_f2 (B := B) (s := ⟨KV, C, KV, C, frL "sum" L0 KV z, frM "sum" L0 KV z m0, frL "stamp" LL2 KV z, frM "stamp" LL2 KV z m2, LL2, m2, ks⟩) (ν := ν2)) (.inl rfl) I1 gk' W_st1 zok (by (try dsimp only); omega)
  rw [W_m2] at f2
  dsimp only at f2
  rw [fd0] at f0
  generalize frD "stamp" LL2 KV z = D1 at *
  generalize frL "sum" L0 KV z = F0 at *
  generalize frM "sum" L0 KV z m0 = G0 at *
  generalize frL "stamp" LL2 KV z = F1 at *
  generalize frM "stamp" LL2 KV z m2 = G1 at *
  -- behind it
  have q0 := fun ks' : List (Key × Dt) => e_stale (W_f0 (B := B) (s := ⟨KV, C, KV, C, F0, G0, F1, G1, F1, G1, ks'⟩) (ν := ν2)) (.inr rfl) g0'.l gk' W_st0 len0
  have q1 := fun ks' : List (Key × Dt) => e_stale (W_f1 (B := B) (s := ⟨KV, C, KV, C, F0, G0, F1, G1, F1, G1, ks'⟩) (ν := ν2)) (.inl rfl) g1'.l gk' W_st0 len1
  have q2 := fun ks' : List (Key × Dt) => e_stale (W_f2 (B := B) (s := ⟨KV, C, KV, C, F0, G0, F1, G1, F1, G1, ks'⟩) (ν := ν2)) (.inl rfl) g1'.l gk' W_st1 len1
  have r0 := fun ks' : List (Key × Dt) => ff_made (W_f0 (B := B) (s := ⟨KV, C, KV, C, F0, G0, F1, G1, F1, G1, ks'⟩) (ν := ν2))
  have r1 := fun ks' : List (Key × Dt) => ff_made (W_f1 (B := B) (s := ⟨KV, C, KV, C, F0, G0, F1, G1, F1, G1, ks'⟩) (ν := ν2))
  have r2 := fun ks' : List (Key × Dt) => ff_made (W_f2 (B := B) (s := ⟨KV, C, KV, C, F0, G0, F1, G1, F1, G1, ks'⟩) (ν := ν2))
  have t0 := fun ks' : List (Key × Dt) => (W_f0 (B := B) (s := ⟨KV, C, KV, C, F0, G0, F1, G1, F1, G1, ks'⟩) (ν := ν2)).o
  have t1 := fun ks' : List (Key × Dt) => (W_f1 (B := B) (s := ⟨KV, C, KV, C, F0, G0, F1, G1, F1, G1, ks'⟩) (ν := ν2)).o
  have t2 := fun ks' : List (Key × Dt) => (W_f2 (B := B) (s := ⟨KV, C, KV, C, F0, G0, F1, G1, F1, G1, ks'⟩) (ν := ν2)).o
  have u0 := fun ks' : List (Key × Dt) => (W_st0 (B := B) (s := ⟨KV, C, KV, C, F0, G0, F1, G1, F1, G1, ks'⟩) (ν := ν2)).o
  have nm := fun ks' : List (Key × Dt) => e_names (W_st0 (B := B) (s := ⟨KV, C, KV, C, F0, G0, F1, G1, F1, G1, ks'⟩) (ν := ν2)) gk'.allT (by (try dsimp only); omega)
  obtain ⟨ks', li, ksv, ksn⟩ : ∃ ks', (own = true → m_Lists_listed [.ptr (B.length + 10), .ptr B.length] (W15 B ⟨KV, C, KV, C, F0, G0, F1, G1, F1, G1, ks⟩ ν2) = .ok (.lst (strsD (sortT (namesK KV)))) (W15 B ⟨KV, C, KV, C, F0, G0, F1, G1, F1, G1, ks'⟩ ν2)) ∧ (own = true → valD ks' (.inr "one") = some (fT (C, sortT (namesK KV)))) ∧ ks'.length ≤ k + 1 ∧ (own = false → ks' = ks) := by
    cases own with
    | true =>
      obtain ⟨kn, v1, v2⟩ := kss rfl
      obtain ⟨ks', l1, l2, l3⟩ := e_listed (W_L (B := B) (s := ⟨KV, C, KV, C, F0, G0, F1, G1, F1, G1, ks⟩) (ν := ν2)) W_K v1 v2 (by (try dsimp only); omega) W_st0 gk'.allT (by (try dsimp only); omega)
      rw [W_ks] at l1
      exact ⟨ks', fun _ => l1, fun _ => l2, Nat.le_trans l3 (by (try dsimp only); omega), fun h => (nomatch h)⟩
    | false => exact ⟨ks, fun h => (nomatch h), fun h => (nomatch h), by omega, fun _ => rfl⟩
  have inv := inx ks' ksn.1 ksv
  have tL : (W15 B ⟨KV, C, KV, C, F0, G0, F1, G1, F1, G1, ks⟩ ν2)[B.length + 10]? = some (.ins 15 [("known", .ptr (B.length + 11))]) := W_L
  have z3 : List.lookup (Str.ofString "listed") [(Str.ofString "known", Dt.ptr (B.length + 11))] = none := rfl
  have ap1 : W15 B ⟨kv0, c0, kv1, c1, L0, m0, LL2, m2, LL2, m2, ks⟩ ν ++ [MO.lst [.int N]] = W15 B ⟨kv0, c0, kv1, c1, L0, m0, LL2, m2, LL2, m2, ks⟩ (ν ++ [.lst [.int N]]) := W_app
  have ap2 : W15 B ⟨KV, C, kv1, c1, L0, m0, LL2, m2, LL2, m2, ks⟩ ν1 ++ [MO.lst [.int N]] = W15 B ⟨KV, C, kv1, c1, L0, m0, LL2, m2, LL2, m2, ks⟩ (ν1 ++ [.lst [.int N]]) := W_app
  have neD := ne_pl (μ := W15 B ⟨KV, C, KV, C, F0, G0, F1, G1, F1, G1, ks⟩ ν2) (pl_due (kvs := KV) (z := z))
  have ne1 := ne_pl (μ := W15 B ⟨KV, C, KV, C, F0, G0, F1, G1, F1, G1, ks⟩ ν2) pl1
  have ll : ∀ d, lies KV z = some d → ∃ b, valD KV (.inr z) = some (tpD d.1 b d.2) ∧ d.1 ∈ textsL := fun d hd => by
    obtain ⟨b, v1, v2⟩ := lies_val gk' (t := d.1) (a := d.2) hd
    exact ⟨b, v1, v2⟩
  have due : (sIf (mTest (mOp oNotN (mV 11) (mC .non))) (sAsg (mCall 1 0 m_law_read [0] [] (mCons (mOp oIx (mV 11) (mC (.int 0))) mNil) mNil) (gSet 12)) sNext) [some (.scr (ns.map Dt.int)), some (.int st), some (.int many), some (.bl own), some (.lst [.ptr B.length, .ptr (B.length + 2)]), some (.lst [.ptr (B.length + 4), .ptr (B.length + 6), .ptr (B.length + 8)]), some (.ptr (B.length + 10)), some (.int (k : Int)), some (.int (k : Int)), some (.int a), some (.str z), some ((valD KV (.inr z)).getD .non), some (.str "none"), e13, e14] (W15 B ⟨KV, C, KV, C, L0, m0, LL2, m2, LL2, m2, ks⟩ ν2) = .nx [some (.scr (ns.map Dt.int)), some (.int st), some (.int many), some (.bl own), some (.lst [.ptr B.length, .ptr (B.length + 2)]), some (.lst [.ptr (B.length + 4), .ptr (B.length + 6), .ptr (B.length + 8)]), some (.ptr (B.length + 10)), some (.int (k : Int)), some (.int (k : Int)), some (.int a), some (.str z), some ((valD KV (.inr z)).getD .non), some (dueD KV z), e13, e14] (W15 B ⟨KV, C, KV, C, L0, m0, LL2, m2, LL2, m2, ks⟩ ν2) := by
    cases hl : lies KV z with
    | none =>
      have hv : valD KV (.inr z) = none := by
        cases hv : valD KV (.inr z) with
        | none => rfl
        | some d =>
          obtain ⟨t, b, a', rfl, _⟩ := gk'.val hv
          rw [lies_some hv] at hl
          cases hl
      unfold dueD
      simp only [hl, hv]
      simp (disch := first | assumption | omega | (simp; done) | (simp; omega)) [oFld_ptr, oFld_exc, insAt, mMeth_ap, dctAt, oDGet_ptr, oDIn_ptr, stPut_ptr, O_no, sTry_ap, oCatN_pl, bAppend_ptr, srcZ_lp, srcL_ptr, oSl_ptr, oIx_ptr, lstAt,  bCount_dot, bSplit_dot, bRpart_dot, bLstrip_dot, bJoin_dot, bJoin_none, oIx_lst, oIx_tup, oIx_scr, oIx_str, oSl_str, srcR1_int, srcR2_int, cLen_str, oAdd_str, oAdd_lst, oEq_int, oNe_int, oEq_str, oNe_str, mDef_ap, if_no, cLenD_ptr, DM.isNon]
    | some d =>
      obtain ⟨b, v1, v2⟩ := ll d hl
      have rd := e_lread (μ := W15 B ⟨KV, C, KV, C, L0, m0, LL2, m2, LL2, m2, ks⟩ ν2) v2
      have x0 : L2.atI [Dt.str d.1, .bl b, .int d.2] 0 = some (.str d.1) := rfl
      unfold dueD
      simp only [hl, v1]
      generalize readV d.1 = RV at *
      simp (disch := first | assumption | omega | (simp; done) | (simp; omega)) [oFld_ptr, oFld_exc, insAt, mMeth_ap, dctAt, oDGet_ptr, oDIn_ptr, stPut_ptr, O_no, sTry_ap, oCatN_pl, bAppend_ptr, srcZ_lp, srcL_ptr, oSl_ptr, oIx_ptr, lstAt,  bCount_dot, bSplit_dot, bRpart_dot, bLstrip_dot, bJoin_dot, bJoin_none, oIx_lst, oIx_tup, oIx_scr, oIx_str, oSl_str, srcR1_int, srcR2_int, cLen_str, oAdd_str, oAdd_lst, oEq_int, oNe_int, oEq_str, oNe_str, mDef_ap, if_no, cLenD_ptr, DM.isNon, tpD, x0, rd]

  generalize dueD KV z = DU at *
  generalize (valD KV (.inr z)).getD .non = VV at *
  dsimp only at q0 q1 q2 r0 r1 r2 t0 t1 t2 u0 nm
  obtain ⟨XX, hXX⟩ : ∃ XX, XX = sortT (namesK KV) := ⟨_, rfl⟩
  rw [← hXX] at nm li
  clear inx kss ksv I0 I1 g0' g1' gk' ll pl1
  have MF0 : ∀ ks', W15 B ⟨KV, C, KV, C, F0, G0, F1, G1, F1, G1, ks'⟩ ν2 = W15 B ⟨KV, C, KV, C, F0, G0, F1, G1, F1, G1, ks'⟩ ν2 := fun _ => rfl

  refine ⟨_, ν2, some (.int a), some (.str z), some VV, some DU, some (.lst [DU, D1, D1]), e14, ?_, inv⟩
  rw [b_law_history_good_1_ap]
  refine seq_step (δ1 := [some (.scr (ns.map Dt.int)), some (.int st), some (.int many), some (.bl own), some (.lst [.ptr B.length, .ptr (B.length + 2)]), some (.lst [.ptr (B.length + 4), .ptr (B.length + 6), .ptr (B.length + 8)]), some (.ptr (B.length + 10)), some (.int (k : Int)), some (.int (k : Int)), some (.int a), e10, e11, e12, e13, e14]) (μ1 := W15 B ⟨kv0, c0, kv1, c1, L0, m0, LL2, m2, LL2, m2, ks⟩ ν) (by
    have c3 : CDivN (k : Int) 3 := ⟨by decide, by decide⟩
    simp (disch := first | assumption | omega | (simp; done) | (simp; omega)) [oFld_ptr, oFld_exc, insAt, mMeth_ap, dctAt, oDGet_ptr, oDIn_ptr, stPut_ptr, O_no, sTry_ap, oCatN_pl, bAppend_ptr, srcZ_lp, srcL_ptr, oSl_ptr, oIx_ptr, lstAt,  bCount_dot, bSplit_dot, bRpart_dot, bLstrip_dot, bJoin_dot, bJoin_none, oIx_lst, oIx_tup, oIx_scr, oIx_str, oSl_str, srcR1_int, srcR2_int, cLen_str, oAdd_str, oAdd_lst, oEq_int, oNe_int, oEq_str, oNe_str, mDef_ap, if_no, cLenD_ptr, hat, oFdiv_int c3, oMod_int]) ?_
  refine seq_step (δ1 := [some (.scr (ns.map Dt.int)), some (.int st), some (.int many), some (.bl own), some (.lst [.ptr B.length, .ptr (B.length + 2)]), some (.lst [.ptr (B.length + 4), .ptr (B.length + 6), .ptr (B.length + 8)]), some (.ptr (B.length + 10)), some (.int (k : Int)), some (.int (k : Int)), some (.int a), some (.str z), e11, e12, e13, e14]) (μ1 := W15 B ⟨KV, C, kv1, c1, L0, m0, LL2, m2, LL2, m2, ks⟩ ν1) (by
    have i0 : L2.atI [Dt.ptr B.length, .ptr (B.length + 2)] 0 = some (.ptr B.length) := rfl
    simp (disch := first | assumption | omega | (simp; done) | (simp; omega)) [oFld_ptr, oFld_exc, insAt, mMeth_ap, dctAt, oDGet_ptr, oDIn_ptr, stPut_ptr, O_no, sTry_ap, oCatN_pl, bAppend_ptr, srcZ_lp, srcL_ptr, oSl_ptr, oIx_ptr, lstAt,  bCount_dot, bSplit_dot, bRpart_dot, bLstrip_dot, bJoin_dot, bJoin_none, oIx_lst, oIx_tup, oIx_scr, oIx_str, oSl_str, srcR1_int, srcR2_int, cLen_str, oAdd_str, oAdd_lst, oEq_int, oNe_int, oEq_str, oNe_str, mDef_ap, if_no, cLenD_ptr, hc, ap1, i0, d1]) ?_
  refine seq_step (δ1 := [some (.scr (ns.map Dt.int)), some (.int st), some (.int many), some (.bl own), some (.lst [.ptr B.length, .ptr (B.length + 2)]), some (.lst [.ptr (B.length + 4), .ptr (B.length + 6), .ptr (B.length + 8)]), some (.ptr (B.length + 10)), some (.int (k : Int)), some (.int (k : Int)), some (.int a), some (.str z), e11, e12, e13, e14]) (μ1 := W15 B ⟨KV, C, KV, C, L0, m0, LL2, m2, LL2, m2, ks⟩ ν2) (by
    have i1 : L2.atI [Dt.ptr B.length, .ptr (B.length + 2)] 1 = some (.ptr (B.length + 2)) := rfl
    simp (disch := first | assumption | omega | (simp; done) | (simp; omega)) [oFld_ptr, oFld_exc, insAt, mMeth_ap, dctAt, oDGet_ptr, oDIn_ptr, stPut_ptr, O_no, sTry_ap, oCatN_pl, bAppend_ptr, srcZ_lp, srcL_ptr, oSl_ptr, oIx_ptr, lstAt,  bCount_dot, bSplit_dot, bRpart_dot, bLstrip_dot, bJoin_dot, bJoin_none, oIx_lst, oIx_tup, oIx_scr, oIx_str, oSl_str, srcR1_int, srcR2_int, cLen_str, oAdd_str, oAdd_lst, oEq_int, oNe_int, oEq_str, oNe_str, mDef_ap, if_no, cLenD_ptr, hc, ap2, i1, d2]) ?_
  refine seq_step (δ1 := [some (.scr (ns.map Dt.int)), some (.int st), some (.int many), some (.bl own), some (.lst [.ptr B.length, .ptr (B.length + 2)]), some (.lst [.ptr (B.length + 4), .ptr (B.length + 6), .ptr (B.length + 8)]), some (.ptr (B.length + 10)), some (.int (k : Int)), some (.int (k : Int)), some (.int a), some (.str z), some VV, e12, e13, e14]) (μ1 := W15 B ⟨KV, C, KV, C, L0, m0, LL2, m2, LL2, m2, ks⟩ ν2) (by
    have i0 : L2.atI [Dt.ptr B.length, .ptr (B.length + 2)] 0 = some (.ptr B.length) := rfl
    simp (disch := first | assumption | omega | (simp; done) | (simp; omega)) [oFld_ptr, oFld_exc, insAt, mMeth_ap, dctAt, oDGet_ptr, oDIn_ptr, stPut_ptr, O_no, sTry_ap, oCatN_pl, bAppend_ptr, srcZ_lp, srcL_ptr, oSl_ptr, oIx_ptr, lstAt,  bCount_dot, bSplit_dot, bRpart_dot, bLstrip_dot, bJoin_dot, bJoin_none, oIx_lst, oIx_tup, oIx_scr, oIx_str, oSl_str, srcR1_int, srcR2_int, cLen_str, oAdd_str, oAdd_lst, oEq_int, oNe_int, oEq_str, oNe_str, mDef_ap, if_no, cLenD_ptr, i0, so, lkm_entry, en]) ?_
  refine seq_step (δ1 := [some (.scr (ns.map Dt.int)), some (.int st), some (.int many), some (.bl own), some (.lst [.ptr B.length, .ptr (B.length + 2)]), some (.lst [.ptr (B.length + 4), .ptr (B.length + 6), .ptr (B.length + 8)]), some (.ptr (B.length + 10)), some (.int (k : Int)), some (.int (k : Int)), some (.int a), some (.str z), some VV, some (.str "none"), e13, e14]) (μ1 := W15 B ⟨KV, C, KV, C, L0, m0, LL2, m2, LL2, m2, ks⟩ ν2) (by
    simp (disch := first | assumption | omega | (simp; done) | (simp; omega)) [oFld_ptr, oFld_exc, insAt, mMeth_ap, dctAt, oDGet_ptr, oDIn_ptr, stPut_ptr, O_no, sTry_ap, oCatN_pl, bAppend_ptr, srcZ_lp, srcL_ptr, oSl_ptr, oIx_ptr, lstAt,  bCount_dot, bSplit_dot, bRpart_dot, bLstrip_dot, bJoin_dot, bJoin_none, oIx_lst, oIx_tup, oIx_scr, oIx_str, oSl_str, srcR1_int, srcR2_int, cLen_str, oAdd_str, oAdd_lst, oEq_int, oNe_int, oEq_str, oNe_str, mDef_ap, if_no, cLenD_ptr]) ?_
  refine seq_step due ?_
  refine seq_step (δ1 := [some (.scr (ns.map Dt.int)), some (.int st), some (.int many), some (.bl own), some (.lst [.ptr B.length, .ptr (B.length + 2)]), some (.lst [.ptr (B.length + 4), .ptr (B.length + 6), .ptr (B.length + 8)]), some (.ptr (B.length + 10)), some (.int (k : Int)), some (.int (k : Int)), some (.int a), some (.str z), some VV, some DU, some (.lst [DU, D1, D1]), e14]) (μ1 := W15 B ⟨KV, C, KV, C, F0, G0, F1, G1, F1, G1, ks⟩ ν2) (by
    have i0 : L2.atI [Dt.ptr B.length, .ptr (B.length + 2)] 0 = some (.ptr B.length) := rfl
    have i1 : L2.atI [Dt.ptr B.length, .ptr (B.length + 2)] 1 = some (.ptr (B.length + 2)) := rfl
    have j2 : L2.atI [Dt.ptr (B.length + 4), .ptr (B.length + 6), .ptr (B.length + 8)] 2 = some (.ptr (B.length + 8)) := rfl
    have cu : DM.cutD [Dt.ptr (B.length + 4), .ptr (B.length + 6), .ptr (B.length + 8)] none (some 2) = [.ptr (B.length + 4), .ptr (B.length + 6)] := rfl
    have lc := lcL_two (g := gSet 14) (e := mCall 3 0 m_law_formed [0, 1, 2] [] (mCons (mV 14) (mCons (mOp oIx (mV 4) (mC (.int 0))) (mCons (mV 10) mNil))) mNil) (δ := wipeD [some (.scr (ns.map Dt.int)), some (.int st), some (.int many), some (.bl own), some (.lst [.ptr B.length, .ptr (B.length + 2)]), some (.lst [.ptr (B.length + 4), .ptr (B.length + 6), .ptr (B.length + 8)]), some (.ptr (B.length + 10)), some (.int (k : Int)), some (.int (k : Int)), some (.int a), some (.str z), some VV, some DU, e13, e14] [14]) (x := .ptr (B.length + 4)) (y := .ptr (B.length + 6)) (u := DU) (v := D1) (M1 := W15 B ⟨KV, C, KV, C, L0, m0, LL2, m2, LL2, m2, ks⟩ ν2) (M2 := W15 B ⟨KV, C, KV, C, F0, G0, LL2, m2, LL2, m2, ks⟩ ν2) (M3 := W15 B ⟨KV, C, KV, C, F0, G0, F1, G1, LL2, m2, ks⟩ ν2) rfl (by simp (disch := first | assumption | omega | (simp; done) | (simp; omega)) [oFld_ptr, oFld_exc, insAt, mMeth_ap, dctAt, oDGet_ptr, oDIn_ptr, stPut_ptr, O_no, sTry_ap, oCatN_pl, bAppend_ptr, srcZ_lp, srcL_ptr, oSl_ptr, oIx_ptr, lstAt,  bCount_dot, bSplit_dot, bRpart_dot, bLstrip_dot, bJoin_dot, bJoin_none, oIx_lst, oIx_tup, oIx_scr, oIx_str, oSl_str, srcR1_int, srcR2_int, cLen_str, oAdd_str, oAdd_lst, oEq_int, oNe_int, oEq_str, oNe_str, mDef_ap, if_no, cLenD_ptr, wipeD, i0, f0]) rfl (by simp (disch := first | assumption | omega | (simp; done) | (simp; omega)) [oFld_ptr, oFld_exc, insAt, mMeth_ap, dctAt, oDGet_ptr, oDIn_ptr, stPut_ptr, O_no, sTry_ap, oCatN_pl, bAppend_ptr, srcZ_lp, srcL_ptr, oSl_ptr, oIx_ptr, lstAt,  bCount_dot, bSplit_dot, bRpart_dot, bLstrip_dot, bJoin_dot, bJoin_none, oIx_lst, oIx_tup, oIx_scr, oIx_str, oSl_str, srcR1_int, srcR2_int, cLen_str, oAdd_str, oAdd_lst, oEq_int, oNe_int, oEq_str, oNe_str, mDef_ap, if_no, cLenD_ptr, wipeD, i0, f1])
    simp (disch := first | assumption | omega | (simp; done) | (simp; omega)) [oFld_ptr, oFld_exc, insAt, mMeth_ap, dctAt, oDGet_ptr, oDIn_ptr, stPut_ptr, O_no, sTry_ap, oCatN_pl, bAppend_ptr, srcZ_lp, srcL_ptr, oSl_ptr, oIx_ptr, lstAt,  bCount_dot, bSplit_dot, bRpart_dot, bLstrip_dot, bJoin_dot, bJoin_none, oIx_lst, oIx_tup, oIx_scr, oIx_str, oSl_str, srcR1_int, srcR2_int, cLen_str, oAdd_str, oAdd_lst, oEq_int, oNe_int, oEq_str, oNe_str, mDef_ap, if_no, cLenD_ptr, cu, lc, i1, j2, f2]) ?_
  refine seq_step (δ1 := [some (.scr (ns.map Dt.int)), some (.int st), some (.int many), some (.bl own), some (.lst [.ptr B.length, .ptr (B.length + 2)]), some (.lst [.ptr (B.length + 4), .ptr (B.length + 6), .ptr (B.length + 8)]), some (.ptr (B.length + 10)), some (.int ((k : Int) + 1)), some (.int (k : Int)), some (.int a), some (.str z), some VV, some DU, some (.lst [DU, D1, D1]), e14]) (μ1 := W15 B ⟨KV, C, KV, C, F0, G0, F1, G1, F1, G1, ks⟩ ν2) (by
    simp (disch := first | assumption | omega | (simp; done) | (simp; omega)) [oFld_ptr, oFld_exc, insAt, mMeth_ap, dctAt, oDGet_ptr, oDIn_ptr, stPut_ptr, O_no, sTry_ap, oCatN_pl, bAppend_ptr, srcZ_lp, srcL_ptr, oSl_ptr, oIx_ptr, lstAt,  bCount_dot, bSplit_dot, bRpart_dot, bLstrip_dot, bJoin_dot, bJoin_none, oIx_lst, oIx_tup, oIx_scr, oIx_str, oSl_str, srcR1_int, srcR2_int, cLen_str, oAdd_str, oAdd_lst, oEq_int, oNe_int, oEq_str, oNe_str, mDef_ap, if_no, cLenD_ptr]) ?_
  have x0 : L2.atI [DU, D1, D1] 0 = some DU := rfl
  have x1 : L2.atI [DU, D1, D1] 1 = some D1 := rfl
  have x2 : L2.atI [DU, D1, D1] 2 = some D1 := rfl
  have i0 : L2.atI [Dt.ptr B.length, .ptr (B.length + 2)] 0 = some (.ptr B.length) := rfl
  have i1 : L2.atI [Dt.ptr B.length, .ptr (B.length + 2)] 1 = some (.ptr (B.length + 2)) := rfl
  have j0 : L2.atI [Dt.ptr (B.length + 4), .ptr (B.length + 6), .ptr (B.length + 8)] 0 = some (.ptr (B.length + 4)) := rfl
  have j1 : L2.atI [Dt.ptr (B.length + 4), .ptr (B.length + 6), .ptr (B.length + 8)] 1 = some (.ptr (B.length + 6)) := rfl
  have j2 : L2.atI [Dt.ptr (B.length + 4), .ptr (B.length + 6), .ptr (B.length + 8)] 2 = some (.ptr (B.length + 8)) := rfl
  rw [st0] at q0
  have nil : ∀ M : Mem, oNe (.lst (strsD [])) (.lst []) M = .ok (.bl false) M := fun M => ne_strs (l := [])
  refine seq_step (δ1 := [some (.scr (ns.map Dt.int)), some (.int st), some (.int many), some (.bl own), some (.lst [.ptr B.length, .ptr (B.length + 2)]), some (.lst [.ptr (B.length + 4), .ptr (B.length + 6), .ptr (B.length + 8)]), some (.ptr (B.length + 10)), some (.int ((k : Int) + 1)), some (.int (k : Int)), some (.int a), some (.str z), some VV, some DU, some (.lst [DU, D1, D1]), e14]) (μ1 := W15 B ⟨KV, C, KV, C, F0, G0, F1, G1, F1, G1, ks⟩ ν2) (by
    simp (disch := first | assumption | omega | (simp; done) | (simp; omega)) [oFld_ptr, oFld_exc, insAt, mMeth_ap, dctAt, oDGet_ptr, oDIn_ptr, stPut_ptr, O_no, sTry_ap, oCatN_pl, bAppend_ptr, srcZ_lp, srcL_ptr, oSl_ptr, oIx_ptr, lstAt,  bCount_dot, bSplit_dot, bRpart_dot, bLstrip_dot, bJoin_dot, bJoin_none, oIx_lst, oIx_tup, oIx_scr, oIx_str, oSl_str, srcR1_int, srcR2_int, cLen_str, oAdd_str, oAdd_lst, oEq_int, oNe_int, oEq_str, oNe_str, mDef_ap, if_no, cLenD_ptr, x0, neD, x1, x2, ne1, j0, i0, t0, lkf_stale, q0, nil, -oNe_int, -oNe_str]) ?_
  refine seq_step (δ1 := [some (.scr (ns.map Dt.int)), some (.int st), some (.int many), some (.bl own), some (.lst [.ptr B.length, .ptr (B.length + 2)]), some (.lst [.ptr (B.length + 4), .ptr (B.length + 6), .ptr (B.length + 8)]), some (.ptr (B.length + 10)), some (.int ((k : Int) + 1)), some (.int (k : Int)), some (.int a), some (.str z), some VV, some DU, some (.lst [DU, D1, D1]), e14]) (μ1 := W15 B ⟨KV, C, KV, C, F0, G0, F1, G1, F1, G1, ks⟩ ν2) (by
    cases own with
    | false => simp (disch := first | assumption | omega | (simp; done) | (simp; omega)) [oFld_ptr, oFld_exc, insAt, mMeth_ap, dctAt, oDGet_ptr, oDIn_ptr, stPut_ptr, O_no, sTry_ap, oCatN_pl, bAppend_ptr, srcZ_lp, srcL_ptr, oSl_ptr, oIx_ptr, lstAt,  bCount_dot, bSplit_dot, bRpart_dot, bLstrip_dot, bJoin_dot, bJoin_none, oIx_lst, oIx_tup, oIx_scr, oIx_str, oSl_str, srcR1_int, srcR2_int, cLen_str, oAdd_str, oAdd_lst, oEq_int, oNe_int, oEq_str, oNe_str, mDef_ap, if_no, cLenD_ptr]
    | true =>
      have st1 := st1 rfl
      rw [st1] at q1
      have x1 : L2.atI [DU, D1, D1] 1 = some DU := by rw [x1, fd1 rfl]
      simp (disch := first | assumption | omega | (simp; done) | (simp; omega)) [oFld_ptr, oFld_exc, insAt, mMeth_ap, dctAt, oDGet_ptr, oDIn_ptr, stPut_ptr, O_no, sTry_ap, oCatN_pl, bAppend_ptr, srcZ_lp, srcL_ptr, oSl_ptr, oIx_ptr, lstAt,  bCount_dot, bSplit_dot, bRpart_dot, bLstrip_dot, bJoin_dot, bJoin_none, oIx_lst, oIx_tup, oIx_scr, oIx_str, oSl_str, srcR1_int, srcR2_int, cLen_str, oAdd_str, oAdd_lst, oEq_int, oNe_int, oEq_str, oNe_str, mDef_ap, if_no, cLenD_ptr, x1, neD, j1, i0, t1, lkf_stale, q1, nil, -oNe_int, -oNe_str]) ?_
  refine seq_step (δ1 := [some (.scr (ns.map Dt.int)), some (.int st), some (.int many), some (.bl own), some (.lst [.ptr B.length, .ptr (B.length + 2)]), some (.lst [.ptr (B.length + 4), .ptr (B.length + 6), .ptr (B.length + 8)]), some (.ptr (B.length + 10)), some (.int ((k : Int) + 1)), some (.int (k : Int)), some (.int a), some (.str z), some VV, some DU, some (.lst [DU, D1, D1]), e14]) (μ1 := W15 B ⟨KV, C, KV, C, F0, G0, F1, G1, F1, G1, ks'⟩ ν2) (by
    cases own with
    | false =>
      rw [ksn.2 rfl]
      simp (disch := first | assumption | omega | (simp; done) | (simp; omega)) [oFld_ptr, oFld_exc, insAt, mMeth_ap, dctAt, oDGet_ptr, oDIn_ptr, stPut_ptr, O_no, sTry_ap, oCatN_pl, bAppend_ptr, srcZ_lp, srcL_ptr, oSl_ptr, oIx_ptr, lstAt,  bCount_dot, bSplit_dot, bRpart_dot, bLstrip_dot, bJoin_dot, bJoin_none, oIx_lst, oIx_tup, oIx_scr, oIx_str, oSl_str, srcR1_int, srcR2_int, cLen_str, oAdd_str, oAdd_lst, oEq_int, oNe_int, oEq_str, oNe_str, mDef_ap, if_no, cLenD_ptr]
    | true =>
      have li := li rfl
      have nn := fun M : Mem => ne_strs (μ := M) (l := XX)
      simp (disch := first | assumption | omega | (simp; done) | (simp; omega)) [oFld_ptr, oFld_exc, insAt, mMeth_ap, dctAt, oDGet_ptr, oDIn_ptr, stPut_ptr, O_no, sTry_ap, oCatN_pl, bAppend_ptr, srcZ_lp, srcL_ptr, oSl_ptr, oIx_ptr, lstAt,  bCount_dot, bSplit_dot, bRpart_dot, bLstrip_dot, bJoin_dot, bJoin_none, oIx_lst, oIx_tup, oIx_scr, oIx_str, oSl_str, srcR1_int, srcR2_int, cLen_str, oAdd_str, oAdd_lst, oEq_int, oNe_int, oEq_str, oNe_str, mDef_ap, if_no, cLenD_ptr, tL, z3, i0, li, u0, lkm_names, nm, nn, -oNe_int, -oNe_str]) ?_
  refine seq_step (δ1 := [some (.scr (ns.map Dt.int)), some (.int st), some (.int many), some (.bl own), some (.lst [.ptr B.length, .ptr (B.length + 2)]), some (.lst [.ptr (B.length + 4), .ptr (B.length + 6), .ptr (B.length + 8)]), some (.ptr (B.length + 10)), some (.int ((k : Int) + 1)), some (.int (k : Int)), some (.int a), some (.str z), some VV, some DU, some (.lst [DU, D1, D1]), e14]) (μ1 := W15 B ⟨KV, C, KV, C, F0, G0, F1, G1, F1, G1, ks'⟩ ν2) (by
    simp (disch := first | assumption | omega | (simp; done) | (simp; omega)) [oFld_ptr, oFld_exc, insAt, mMeth_ap, dctAt, oDGet_ptr, oDIn_ptr, stPut_ptr, O_no, sTry_ap, oCatN_pl, bAppend_ptr, srcZ_lp, srcL_ptr, oSl_ptr, oIx_ptr, lstAt,  bCount_dot, bSplit_dot, bRpart_dot, bLstrip_dot, bJoin_dot, bJoin_none, oIx_lst, oIx_tup, oIx_scr, oIx_str, oSl_str, srcR1_int, srcR2_int, cLen_str, oAdd_str, oAdd_lst, oEq_int, oNe_int, oEq_str, oNe_str, mDef_ap, if_no, cLenD_ptr, j0, j1, j2, r0, r1, r2, cMax_int, mx, -oFld_ptr]) ?_
  have nst := fun M : Mem => ne_strs (μ := M) (l := staleL "stamp" "one" KV F1)
  generalize staleL "stamp" "one" KV F1 = SS at *
  simp (disch := first | assumption | omega | (simp; done) | (simp; omega)) [oFld_ptr, oFld_exc, insAt, mMeth_ap, dctAt, oDGet_ptr, oDIn_ptr, stPut_ptr, O_no, sTry_ap, oCatN_pl, bAppend_ptr, srcZ_lp, srcL_ptr, oSl_ptr, oIx_ptr, lstAt,  bCount_dot, bSplit_dot, bRpart_dot, bLstrip_dot, bJoin_dot, bJoin_none, oIx_lst, oIx_tup, oIx_scr, oIx_str, oSl_str, srcR1_int, srcR2_int, cLen_str, oAdd_str, oAdd_lst, oEq_int, oNe_int, oEq_str, oNe_str, mDef_ap, if_no, cLenD_ptr, j1, j2, i0, i1, t1, t2, lkf_stale, q1, q2, nst, -oNe_int, -oNe_str]
end

/-! law k15: the history -/
theorem e_linit {μ : Mem} {p : Nat} (hp : μ[p]? = some (.ins 15 [])) : m_Lists___init__ [.ptr p] μ = .ok .non ((μ ++ [MO.dK []]).set p (.ins 15 [("known", .ptr μ.length)])) := by
  unfold m_Lists___init__
  have s1 : ∀ δ, stFld ni "known" δ (.ptr μ.length) (.ptr p) (μ ++ [MO.dK []]) = .nx δ ((μ ++ [MO.dK []]).set p (.ins 15 [("known", .ptr μ.length)])) := fun δ => stFld_ptr (ext_at hp) ni_known (show 0 < 1000 by decide)
  simp (disch := first | assumption | omega | (simp; done) | (simp; omega)) [oFld_ptr, oFld_exc, insAt, mMeth_ap, dctAt, oDGet_ptr, oDIn_ptr, stPut_ptr, O_no, sTry_ap, oCatN_pl, bAppend_ptr, srcZ_lp, srcL_ptr, oSl_ptr, oIx_ptr, lstAt,  bCount_dot, bSplit_dot, bRpart_dot, bLstrip_dot, bJoin_dot, bJoin_none, oIx_lst, oIx_tup, oIx_scr, oIx_str, oSl_str, srcR1_int, srcR2_int, cLen_str, oAdd_str, oAdd_lst, oEq_int, oNe_int, oEq_str, oNe_str, mDef_ap, if_no, cLenD_ptr, s1]
theorem e_forget {μ : Mem} {p q : Nat} (hp : μ[p]? = some (.ins 15 [("known", .ptr q)])) : m_Lists_forget [.ptr p] μ = .ok .non ((μ ++ [MO.dK []]).set p (.ins 15 [("known", .ptr μ.length)])) := by
  unfold m_Lists_forget
  have s1 : ∀ δ, stFld ni "known" δ (.ptr μ.length) (.ptr p) (μ ++ [MO.dK []]) = .nx δ ((μ ++ [MO.dK []]).set p (.ins 15 [("known", .ptr μ.length)])) := fun δ => stFld_ptr (ext_at hp) ni_known (show 1 < 1000 by decide)
  simp (disch := first | assumption | omega | (simp; done) | (simp; omega)) [oFld_ptr, oFld_exc, insAt, mMeth_ap, dctAt, oDGet_ptr, oDIn_ptr, stPut_ptr, O_no, sTry_ap, oCatN_pl, bAppend_ptr, srcZ_lp, srcL_ptr, oSl_ptr, oIx_ptr, lstAt,  bCount_dot, bSplit_dot, bRpart_dot, bLstrip_dot, bJoin_dot, bJoin_none, oIx_lst, oIx_tup, oIx_scr, oIx_str, oSl_str, srcR1_int, srcR2_int, cLen_str, oAdd_str, oAdd_lst, oEq_int, oNe_int, oEq_str, oNe_str, mDef_ap, if_no, cLenD_ptr, s1]
theorem rng_at15 {n i : Nat} {d : Dt} (h : (rngD 0 n)[i]? = some d) : d = .int (i : Int) ∧ i < n := by
  obtain ⟨e, hi⟩ := rng_at h
  rw [Int.zero_add] at e
  exact ⟨e, hi⟩
theorem inv0 {own : Bool} : Inv own 0 ⟨[], 0, [], 0, [], 0, [], 0, [], 0, []⟩ where
  e1 := rfl
  e2 := rfl
  e3 := rfl
  e4 := rfl
  gk := fun x hx => (nomatch hx)
  lk := Nat.le_refl _
  g0 := fun x hx => (nomatch hx)
  l0 := Nat.le_refl _
  g1 := fun x hx => (nomatch hx)
  l1 := Nat.le_refl _
  n0 := Int.le_refl _
  n1 := Int.le_refl _
  lks := Nat.le_refl _
  ow := fun _ => by
    refine ⟨fun z t a h => ?_, fun x hx => (nomatch hx), fun z e t a h => ?_, Int.le_refl _, none, rfl, fun x hx => (nomatch hx)⟩
    · have h : (none : Option (Str × Int)) = some (t, a) := h
      cases h
    · have h : (none : Option Ent) = some e := h
      cases h
section
variable {B : Mem} {ns : List Int} {own : Bool} {st : Int} {q : Nat}
/-- what is asked last -/
theorem e_last {M : Mem} {p0 b0 p1 b1 L u : Nat} {kv : List (Key × Dt)} {c : Int} (s0 : SAt M p0 b0 "one" kv c) (s1 : SAt M p1 b1 "one" kv c) (hL : M[L]? = some (.ins 15 [("known", .ptr u)])) (gk : GoodK kv) (hl : kv.length < 64) {δ : DM.Env} (h4 : δ[4]? = some (some (.lst [.ptr p0, .ptr p1]))) (h6 : δ[6]? = some (some (.ptr L))) :
    ∃ M', (sSeq (sDrop (mMeth (tbl1 15 m_Lists_forget) "forget" 0 0 [0] [] (mV 6) mNil mNil))
    (sRet (mIf (mTest (mOp oEq (mMeth (tbl1 15 m_Lists_listed) "listed" 1 0 [0, 1] [] (mV 6) (mCons (mOp oIx (mV 4) (mC (.int 0))) mNil) mNil) (mMeth (tbl1 14 m_Store_names) "names" 0 0 [0] [] (mOp oIx (mV 4) (mC (.int 1))) mNil mNil))) (mOp oEq (mMeth (tbl1 15 m_Lists_listed) "listed" 1 0 [0, 1] [] (mMake 15 0 0 m_Lists___init__ [0] [] mNil mNil) (mCons (mOp oIx (mV 4) (mC (.int 0))) mNil) mNil) (mMeth (tbl1 14 m_Store_names) "names" 0 0 [0] [] (mOp oIx (mV 4) (mC (.int 0))) mNil mNil)) (mC (.bl false))))) δ M = .rt (.bl true) M' := by
  have fg := e_forget hL
  have lt := fun {i : Nat} {o : MO} (h : M[i]? = some o) => (List.getElem?_eq_some_iff.mp h).1
  have n1 : L ≠ p0 := at_ne hL s0.o (by simp)
  have n2 : L ≠ b0 := at_ne hL s0.d (by simp)
  have n3 : L ≠ p1 := at_ne hL s1.o (by simp)
  have n4 : L ≠ b1 := at_ne hL s1.d (by simp)
  have hLl := lt hL
  have z1 : List.lookup (Str.ofString "forget") [(Str.ofString "known", Dt.ptr u)] = none := rfl
  obtain ⟨M1, hM1⟩ : ∃ M1, M1 = (M ++ [MO.dK []]).set L (.ins 15 [("known", .ptr M.length)]) := ⟨_, rfl⟩
  have a0 : SAt M1 p0 b0 "one" kv c := by rw [hM1]; exact s0.app.set n1 n2
  have a1 : SAt M1 p1 b1 "one" kv c := by rw [hM1]; exact s1.app.set n3 n4
  have aL : M1[L]? = some (.ins 15 [("known", .ptr M.length)]) := by rw [hM1]; exact set_at (ext_at hL)
  have aq : M1[M.length]? = some (.dK []) := by
    rw [hM1, List.getElem?_set_ne (by omega)]
    simp
  rw [← hM1] at fg
  obtain ⟨ks1, l1, _, _⟩ := e_listed (kn := none) aL aq rfl (fun x h => (nomatch h)) (by simp) a0 gk.allT hl
  have m1 : M.length ≠ p0 := at_ne aq a0.o (by simp)
  have m2 : M.length ≠ p1 := at_ne aq a1.o (by simp)
  have m3 : M.length ≠ b0 := by have := lt s0.d; omega
  have m4 : M.length ≠ b1 := by have := lt s1.d; omega
  have b0' : SAt (M1.set M.length (.dK ks1)) p0 b0 "one" kv c := a0.set m1 m3
  have b1' : SAt (M1.set M.length (.dK ks1)) p1 b1 "one" kv c := a1.set m2 m4
  generalize M1.set M.length (.dK ks1) = M2 at l1 b0' b1'
  have nm1 := e_names b1' gk.allT hl
  have li := e_linit (μ := M2 ++ [.ins 15 []]) (p := M2.length) (by simp)
  rw [List.append_assoc] at li
  rw [set_add0] at li
  have li : m_Lists___init__ [.ptr M2.length] (M2 ++ [.ins 15 []]) = .ok .non (M2 ++ [.ins 15 [("known", .ptr (M2.length + 1))], .dK []]) := by
    rw [li]
    simp
  have c0 : SAt (M2 ++ [MO.ins 15 [("known", .ptr (M2.length + 1))], .dK []]) p0 b0 "one" kv c := b0'.app
  have cL : (M2 ++ [MO.ins 15 [("known", .ptr (M2.length + 1))], .dK []])[M2.length]? = some (.ins 15 [("known", .ptr (M2.length + 1))]) := by simp
  have cq : (M2 ++ [MO.ins 15 [("known", .ptr (M2.length + 1))], .dK []])[M2.length + 1]? = some (.dK []) := by simp
  have k1 := (List.getElem?_eq_some_iff.mp b0'.o).1
  have k2 := (List.getElem?_eq_some_iff.mp b0'.d).1
  generalize M2 ++ [MO.ins 15 [("known", .ptr (M2.length + 1))], .dK []] = M3 at li c0 cL cq
  obtain ⟨ks3, l3, _, _⟩ := e_listed (kn := none) cL cq rfl (fun x h => (nomatch h)) (by simp) c0 gk.allT hl
  have d0 : SAt (M3.set (M2.length + 1) (.dK ks3)) p0 b0 "one" kv c := c0.set (by omega) (by omega)
  generalize M3.set (M2.length + 1) (.dK ks3) = M4 at l3 d0
  have nm4 := e_names d0 gk.allT hl
  have z2 : ∀ r : Nat, List.lookup (Str.ofString "listed") [(Str.ofString "known", Dt.ptr r)] = none := fun _ => rfl
  have i0 : L2.atI [Dt.ptr p0, .ptr p1] 0 = some (.ptr p0) := rfl
  have i1 : L2.atI [Dt.ptr p0, .ptr p1] 1 = some (.ptr p1) := rfl
  have e1 := eq_strs (μ := M2) (l := sortT (namesK kv))
  have e2 := eq_strs (μ := M4) (l := sortT (namesK kv))
  have t2 := b1'.o
  have t4 := d0.o
  generalize sortT (namesK kv) = X at *
  refine ⟨M4, ?_⟩
  clear hLl k1 k2
  refine seq_step (δ1 := δ) (μ1 := M1) (by simp (disch := first | assumption | omega | (simp; done) | (simp; omega)) [oFld_ptr, oFld_exc, insAt, mMeth_ap, dctAt, oDGet_ptr, oDIn_ptr, stPut_ptr, O_no, sTry_ap, oCatN_pl, bAppend_ptr, srcZ_lp, srcL_ptr, oSl_ptr, oIx_ptr, lstAt,  bCount_dot, bSplit_dot, bRpart_dot, bLstrip_dot, bJoin_dot, bJoin_none, oIx_lst, oIx_tup, oIx_scr, oIx_str, oSl_str, srcR1_int, srcR2_int, cLen_str, oAdd_str, oAdd_lst, oEq_int, oNe_int, oEq_str, oNe_str, mDef_ap, if_no, cLenD_ptr, h6, hL, z1, fg]) ?_
  clear s0 s1 a0 a1 b0' b1' c0 d0 hM1
  simp (disch := first | assumption | omega | (simp; done) | (simp; omega)) [oFld_ptr, oFld_exc, insAt, mMeth_ap, dctAt, oDGet_ptr, oDIn_ptr, stPut_ptr, O_no, sTry_ap, oCatN_pl, bAppend_ptr, srcZ_lp, srcL_ptr, oSl_ptr, oIx_ptr, lstAt,  bCount_dot, bSplit_dot, bRpart_dot, bLstrip_dot, bJoin_dot, bJoin_none, oIx_lst, oIx_tup, oIx_scr, oIx_str, oSl_str, srcR1_int, srcR2_int, cLen_str, oAdd_str, oAdd_lst, oEq_int, oNe_int, oEq_str, oNe_str, mDef_ap, if_no, cLenD_ptr, h4, h6, aL, z2, i0, i1, l1, t2, lkm_names, nm1, e1, li, cL, l3, t4, nm4, e2]
theorem e_history (hq : q ≤ 30) (h0 : 0 ≤ st) (h1 : st ≤ 40) : ∃ M', m_law_history_good [.scr (ns.map Dt.int), .int st, .int (q : Int), .bl own] B = .ok (.bl true) M' := by
  have i1 : m_Store___init__ [.ptr B.length, .str "one"] (B ++ [.ins 14 []]) = .ok .non (B ++ [.ins 14 (stF "one" (B.length + 1) 0), .dK []]) := by
    have e := e_init (μ := B ++ [.ins 14 []]) (p := B.length) (z := "one") (by decide +kernel) (by simp)
    rw [e]
    simp
  have i2 : m_Store___init__ [.ptr (B.length + 2), .str "one"] (B ++ [.ins 14 (stF "one" (B.length + 1) 0), .dK [], .ins 14 []]) = .ok .non (B ++ [.ins 14 (stF "one" (B.length + 1) 0), .dK [], .ins 14 (stF "one" (B.length + 3) 0), .dK []]) := by
    have e := e_init (μ := B ++ [.ins 14 (stF "one" (B.length + 1) 0), .dK [], .ins 14 []]) (p := B.length + 2) (z := "one") (by decide +kernel) (by simp)
    rw [e]
    simp
  have i3 : m_Forms___init__ [.ptr (B.length + 4), .str "sum"] (B ++ [.ins 14 (stF "one" (B.length + 1) 0), .dK [], .ins 14 (stF "one" (B.length + 3) 0), .dK [], .ins 16 []]) = .ok .non (B ++ [.ins 14 (stF "one" (B.length + 1) 0), .dK [], .ins 14 (stF "one" (B.length + 3) 0), .dK [], .ins 16 (foF "sum" (B.length + 5) 0 0), .dT []]) := by
    have e := e_finit (μ := B ++ [.ins 14 (stF "one" (B.length + 1) 0), .dK [], .ins 14 (stF "one" (B.length + 3) 0), .dK [], .ins 16 []]) (f := B.length + 4) (chk := "sum") (.inr rfl) (by simp)
    rw [e]
    simp
  have i4 : m_Forms___init__ [.ptr (B.length + 6), .str "stamp"] (B ++ [.ins 14 (stF "one" (B.length + 1) 0), .dK [], .ins 14 (stF "one" (B.length + 3) 0), .dK [], .ins 16 (foF "sum" (B.length + 5) 0 0), .dT [], .ins 16 []]) = .ok .non (B ++ [.ins 14 (stF "one" (B.length + 1) 0), .dK [], .ins 14 (stF "one" (B.length + 3) 0), .dK [], .ins 16 (foF "sum" (B.length + 5) 0 0), .dT [], .ins 16 (foF "stamp" (B.length + 7) 0 0), .dT []]) := by
    have e := e_finit (μ := B ++ [.ins 14 (stF "one" (B.length + 1) 0), .dK [], .ins 14 (stF "one" (B.length + 3) 0), .dK [], .ins 16 (foF "sum" (B.length + 5) 0 0), .dT [], .ins 16 []]) (f := B.length + 6) (chk := "stamp") (.inl rfl) (by simp)
    rw [e]
    simp
  have i5 : m_Forms___init__ [.ptr (B.length + 8), .str "stamp"] (B ++ [.ins 14 (stF "one" (B.length + 1) 0), .dK [], .ins 14 (stF "one" (B.length + 3) 0), .dK [], .ins 16 (foF "sum" (B.length + 5) 0 0), .dT [], .ins 16 (foF "stamp" (B.length + 7) 0 0), .dT [], .ins 16 []]) = .ok .non (B ++ [.ins 14 (stF "one" (B.length + 1) 0), .dK [], .ins 14 (stF "one" (B.length + 3) 0), .dK [], .ins 16 (foF "sum" (B.length + 5) 0 0), .dT [], .ins 16 (foF "stamp" (B.length + 7) 0 0), .dT [], .ins 16 (foF "stamp" (B.length + 9) 0 0), .dT []]) := by
    have e := e_finit (μ := B ++ [.ins 14 (stF "one" (B.length + 1) 0), .dK [], .ins 14 (stF "one" (B.length + 3) 0), .dK [], .ins 16 (foF "sum" (B.length + 5) 0 0), .dT [], .ins 16 (foF "stamp" (B.length + 7) 0 0), .dT [], .ins 16 []]) (f := B.length + 8) (chk := "stamp") (.inl rfl) (by simp)
    rw [e]
    simp
  have i6 : m_Lists___init__ [.ptr (B.length + 10)] (B ++ [.ins 14 (stF "one" (B.length + 1) 0), .dK [], .ins 14 (stF "one" (B.length + 3) 0), .dK [], .ins 16 (foF "sum" (B.length + 5) 0 0), .dT [], .ins 16 (foF "stamp" (B.length + 7) 0 0), .dT [], .ins 16 (foF "stamp" (B.length + 9) 0 0), .dT [], .ins 15 []]) = .ok .non (W15 B ⟨[], 0, [], 0, [], 0, [], 0, [], 0, []⟩ []) := by
    have e := e_linit (μ := B ++ [.ins 14 (stF "one" (B.length + 1) 0), .dK [], .ins 14 (stF "one" (B.length + 3) 0), .dK [], .ins 16 (foF "sum" (B.length + 5) 0 0), .dT [], .ins 16 (foF "stamp" (B.length + 7) 0 0), .dT [], .ins 16 (foF "stamp" (B.length + 9) 0 0), .dT [], .ins 15 []]) (p := B.length + 10) (by simp)
    rw [e]
    simp [W15, os15]
  obtain ⟨δ', μ', g8, p8⟩ := forL_run (fun i δ' μ' => (∃ y8 y9 y10 y11 y12 y13 y14, δ' = [some (.scr (ns.map Dt.int)), some (.int st), some (.int (q : Int)), some (.bl own), some (.lst [.ptr B.length, .ptr (B.length + 2)]), some (.lst [.ptr (B.length + 4), .ptr (B.length + 6), .ptr (B.length + 8)]), some (.ptr (B.length + 10)), some (.int (i : Int)), y8, y9, y10, y11, y12, y13, y14]) ∧ ∃ s ν, μ' = W15 B s ν ∧ Inv own i s) (tg := gSet 8) (body := b_law_history_good_1) (ds := rngD 0 q) (δ := [some (.scr (ns.map Dt.int)), some (.int st), some (.int (q : Int)), some (.bl own), some (.lst [.ptr B.length, .ptr (B.length + 2)]), some (.lst [.ptr (B.length + 4), .ptr (B.length + 6), .ptr (B.length + 8)]), some (.ptr (B.length + 10)), some (.int 0), none, none, none, none, none, none, none]) (μ := W15 B ⟨[], 0, [], 0, [], 0, [], 0, [], 0, []⟩ []) ⟨⟨none, none, none, none, none, none, none, rfl⟩, ⟨[], 0, [], 0, [], 0, [], 0, [], 0, []⟩, [], rfl, inv0⟩ (by
    rintro i d δ μ2 hd ⟨⟨y8, y9, y10, y11, y12, y13, y14, rfl⟩, s, ν, rfl, iv⟩
    obtain ⟨rfl, hi⟩ := rng_at15 hd
    obtain ⟨s', ν', z9, z10, z11, z12, z13, z14, g, iv'⟩ := e_turn (B := B) (ν := ν) (ns := ns) (many := (q : Int)) (e9 := y9) (e10 := y10) (e11 := y11) (e12 := y12) (e13 := y13) (e14 := y14) iv (by omega) h0 h1
    exact ⟨_, _, _, rfl, g, ⟨_, z9, z10, z11, z12, z13, z14, rfl⟩, s', ν', rfl, iv'⟩)
  rw [show (rngD 0 q).length = q from by simp] at p8
  obtain ⟨⟨y8, y9, y10, y11, y12, y13, y14, rfl⟩, s, ν, rfl, iv⟩ := p8
  have s0 := W_st0 (B := B) (s := s) (ν := ν)
  have s1 := (W_st1 (B := B) (s := s) (ν := ν)).as iv.e1 iv.e2
  have hL := W_L (B := B) (s := s) (ν := ν)
  obtain ⟨M', g9⟩ := e_last s0 s1 hL iv.gk (Nat.lt_of_le_of_lt iv.lk (by omega)) (δ := [some (.scr (ns.map Dt.int)), some (.int st), some (.int (q : Int)), some (.bl own), some (.lst [.ptr B.length, .ptr (B.length + 2)]), some (.lst [.ptr (B.length + 4), .ptr (B.length + 6), .ptr (B.length + 8)]), some (.ptr (B.length + 10)), some (.int (q : Int)), y8, y9, y10, y11, y12, y13, y14]) rfl rfl
  refine ⟨M', ?_⟩
  generalize W15 B s ν = M6 at g8 g9
  clear s0 s1 hL iv
  generalize hW0 : W15 B ⟨[], 0, [], 0, [], 0, [], 0, [], 0, []⟩ [] = W0 at i6 g8
  unfold m_law_history_good
  rw [mDef_ap (by rfl)]
  refine Eq.trans (b := O.out (.rt (.bl true) M')) (congrArg O.out ?_) rfl
  refine seq_step (δ1 := [some (.scr (ns.map Dt.int)), some (.int st), some (.int (q : Int)), some (.bl own), some (.lst [.ptr B.length, .ptr (B.length + 2)]), none, none, none, none, none, none, none, none, none, none]) (μ1 := B ++ [.ins 14 (stF "one" (B.length + 1) 0), .dK [], .ins 14 (stF "one" (B.length + 3) 0), .dK []]) (by simp (disch := first | assumption | omega | (simp; done) | (simp; omega)) [oFld_ptr, oFld_exc, insAt, mMeth_ap, dctAt, oDGet_ptr, oDIn_ptr, stPut_ptr, O_no, sTry_ap, oCatN_pl, bAppend_ptr, srcZ_lp, srcL_ptr, oSl_ptr, oIx_ptr, lstAt,  bCount_dot, bSplit_dot, bRpart_dot, bLstrip_dot, bJoin_dot, bJoin_none, oIx_lst, oIx_tup, oIx_scr, oIx_str, oSl_str, srcR1_int, srcR2_int, cLen_str, oAdd_str, oAdd_lst, oEq_int, oNe_int, oEq_str, oNe_str, mDef_ap, if_no, cLenD_ptr, i1, i2]) ?_
  refine seq_step (δ1 := [some (.scr (ns.map Dt.int)), some (.int st), some (.int (q : Int)), some (.bl own), some (.lst [.ptr B.length, .ptr (B.length + 2)]), some (.lst [.ptr (B.length + 4), .ptr (B.length + 6), .ptr (B.length + 8)]), none, none, none, none, none, none, none, none, none]) (μ1 := B ++ [.ins 14 (stF "one" (B.length + 1) 0), .dK [], .ins 14 (stF "one" (B.length + 3) 0), .dK [], .ins 16 (foF "sum" (B.length + 5) 0 0), .dT [], .ins 16 (foF "stamp" (B.length + 7) 0 0), .dT [], .ins 16 (foF "stamp" (B.length + 9) 0 0), .dT []]) (by simp (disch := first | assumption | omega | (simp; done) | (simp; omega)) [oFld_ptr, oFld_exc, insAt, mMeth_ap, dctAt, oDGet_ptr, oDIn_ptr, stPut_ptr, O_no, sTry_ap, oCatN_pl, bAppend_ptr, srcZ_lp, srcL_ptr, oSl_ptr, oIx_ptr, lstAt,  bCount_dot, bSplit_dot, bRpart_dot, bLstrip_dot, bJoin_dot, bJoin_none, oIx_lst, oIx_tup, oIx_scr, oIx_str, oSl_str, srcR1_int, srcR2_int, cLen_str, oAdd_str, oAdd_lst, oEq_int, oNe_int, oEq_str, oNe_str, mDef_ap, if_no, cLenD_ptr, i3, i4, i5]) ?_
  refine seq_step (δ1 := [some (.scr (ns.map Dt.int)), some (.int st), some (.int (q : Int)), some (.bl own), some (.lst [.ptr B.length, .ptr (B.length + 2)]), some (.lst [.ptr (B.length + 4), .ptr (B.length + 6), .ptr (B.length + 8)]), some (.ptr (B.length + 10)), none, none, none, none, none, none, none, none]) (μ1 := W0) (by simp (disch := first | assumption | omega | (simp; done) | (simp; omega)) [oFld_ptr, oFld_exc, insAt, mMeth_ap, dctAt, oDGet_ptr, oDIn_ptr, stPut_ptr, O_no, sTry_ap, oCatN_pl, bAppend_ptr, srcZ_lp, srcL_ptr, oSl_ptr, oIx_ptr, lstAt,  bCount_dot, bSplit_dot, bRpart_dot, bLstrip_dot, bJoin_dot, bJoin_none, oIx_lst, oIx_tup, oIx_scr, oIx_str, oSl_str, srcR1_int, srcR2_int, cLen_str, oAdd_str, oAdd_lst, oEq_int, oNe_int, oEq_str, oNe_str, mDef_ap, if_no, cLenD_ptr, i6]) ?_
  refine seq_step (δ1 := [some (.scr (ns.map Dt.int)), some (.int st), some (.int (q : Int)), some (.bl own), some (.lst [.ptr B.length, .ptr (B.length + 2)]), some (.lst [.ptr (B.length + 4), .ptr (B.length + 6), .ptr (B.length + 8)]), some (.ptr (B.length + 10)), some (.int 0), none, none, none, none, none, none, none]) (μ1 := W0) (by simp (disch := first | assumption | omega | (simp; done) | (simp; omega)) [oFld_ptr, oFld_exc, insAt, mMeth_ap, dctAt, oDGet_ptr, oDIn_ptr, stPut_ptr, O_no, sTry_ap, oCatN_pl, bAppend_ptr, srcZ_lp, srcL_ptr, oSl_ptr, oIx_ptr, lstAt,  bCount_dot, bSplit_dot, bRpart_dot, bLstrip_dot, bJoin_dot, bJoin_none, oIx_lst, oIx_tup, oIx_scr, oIx_str, oSl_str, srcR1_int, srcR2_int, cLen_str, oAdd_str, oAdd_lst, oEq_int, oNe_int, oEq_str, oNe_str, mDef_ap, if_no, cLenD_ptr]) ?_
  have hm2 : ((q : Int)).toNat = q := by omega
  refine seq_step (δ1 := [some (.scr (ns.map Dt.int)), some (.int st), some (.int (q : Int)), some (.bl own), some (.lst [.ptr B.length, .ptr (B.length + 2)]), some (.lst [.ptr (B.length + 4), .ptr (B.length + 6), .ptr (B.length + 8)]), some (.ptr (B.length + 10)), some (.int (q : Int)), y8, y9, y10, y11, y12, y13, y14]) (μ1 := M6) (by simp (disch := first | assumption | omega | (simp; done) | (simp; omega)) [oFld_ptr, oFld_exc, insAt, mMeth_ap, dctAt, oDGet_ptr, oDIn_ptr, stPut_ptr, O_no, sTry_ap, oCatN_pl, bAppend_ptr, srcZ_lp, srcL_ptr, oSl_ptr, oIx_ptr, lstAt,  bCount_dot, bSplit_dot, bRpart_dot, bLstrip_dot, bJoin_dot, bJoin_none, oIx_lst, oIx_tup, oIx_scr, oIx_str, oSl_str, srcR1_int, srcR2_int, cLen_str, oAdd_str, oAdd_lst, oEq_int, oNe_int, oEq_str, oNe_str, mDef_ap, if_no, cLenD_ptr, hm2, g8]) ?_
  exact g9
end

/-! law k15: older rows, the law -/
def os4 (n : Nat) (kv : List (Key × Dt)) (c : Int) (L : List Ent) (m : Int) : Mem := [.ins 14 (stF "s" (n + 1) c), .dK kv, .ins 16 (foF "stamp" (n + 3) m (L.length : Int)), .dT (L.map (mkE fF))]
def W4 (B : Mem) (kv : List (Key × Dt)) (c : Int) (L : List Ent) (m : Int) : Mem := B ++ os4 B.length kv c L m
section
variable {B : Mem} {kv kv' : List (Key × Dt)} {c c' m m' : Int} {L L' : List Ent}
theorem w4_st : SAt (W4 B kv c L m) B.length (B.length + 1) "s" kv c := ⟨by simp [W4, os4], by simp [W4, os4]⟩
theorem w4_f : FE (W4 B kv c L m) (B.length + 2) (B.length + 3) "stamp" L m := ⟨by simp [W4, os4], by simp [W4, os4]⟩
theorem w4_set : ((W4 B kv c L m).set (B.length + 1) (.dK kv')).set B.length (.ins 14 (stF "s" (B.length + 1) c')) = W4 B kv' c' L m := by simp [W4, os4]
theorem w4_m : memF (W4 B kv c L m) (B.length + 2) (B.length + 3) "stamp" L' m' = W4 B kv c L' m' := by simp [memF, W4, os4]
/-- one name lies -/
def kvA (t : Str) (a : Int) : List (Key × Dt) := [(.inr "a", tpD t false a)]
def enA (t : Str) (a : Int) : List Ent := [⟨"s", "a", t, a, wordsT t⟩]
theorem name_a : nameS "a" = true := by decide +kernel
theorem val_a {t : Str} {a : Int} : valD (kvA t a) (.inr "a") = some (tpD t false a) := by
  unfold valD kvA
  simp
theorem put_a {t u : Str} {a b : Int} : putKD (kvA t a) (.inr "a") (tpD u false b) = kvA u b := by
  unfold putKD kvA
  simp
theorem put_0 {u : Str} {b : Int} : putKD [] (.inr "a") (tpD u false b) = kvA u b := rfl
theorem find_a {t : Str} {a : Int} : findE (enA t a) "s" "a" = some ⟨"s", "a", t, a, wordsT t⟩ := by
  unfold findE enA same
  simp
theorem pute_a {t u : Str} {a b : Int} : putE (enA t a) ⟨"s", "a", u, b, wordsT u⟩ = enA u b := by
  unfold putE enA same
  simp
theorem pute_0 {u : Str} {b : Int} : putE [] ⟨"s", "a", u, b, wordsT u⟩ = enA u b := rfl
theorem drop_a {t : Str} {a : Int} : dropE (enA t a) "s" "a" = [] := by
  unfold dropE enA same
  simp
theorem good_a {t : Str} {a : Int} (h : t ∈ textsL) : GoodK (kvA t a) := fun x hx => by
  rw [List.mem_singleton.mp hx]
  exact ⟨"a", t, false, a, rfl, h⟩
theorem goodl_a {t : Str} {a : Int} (h : t ∈ textsL) : GoodL (enA t a) := fun x hx => by
  rw [List.mem_singleton.mp hx]
  exact ⟨h, name_a⟩
theorem lies_a {t : Str} {a : Int} : lies (kvA t a) "a" = some (t, a) := lies_some val_a
theorem hold_a {t u : Str} {a b : Int} {ls : List (List Str)} : holdE "stamp" (some ⟨"s", "a", t, a, ls⟩) (some (u, b)) = ((a == b) && (((t.length : Nat) : Int) == ((u.length : Nat) : Int))) := by
  unfold holdE
  exact if_neg cs3
/-- put, in this world -/
theorem p_a {t : Str} {a : Int} (ht : t ∈ textsL) (hl : kv.length ≤ 10) : m_Store_put [.ptr B.length, .str "a", .str t, .bl false, .int a] (W4 B kv c L m) = .ok .non (W4 B (putKD kv (.inr "a") (tpD t false a)) a L m) := by
  have tl := texts_len _ ht
  have e := e_put (k := false) (a := a) (t := t) (w4_st (B := B) (kv := kv) (c := c) (L := L) (m := m)) name_a (by omega) (by omega) (by omega)
  rw [e]
  unfold tpD
  rw [w4_set]
theorem f_keep {t u : Str} {a b : Int} (ht : t ∈ textsL) (hu : u ∈ textsL) (h1 : a = b) (h2 : t.length = u.length) : m_Forms_form [.ptr (B.length + 2), .ptr B.length, .str "a"] (W4 B (kvA u b) c (enA t a) m) = .ok (.lst (rowsD t)) (W4 B (kvA u b) c (enA t a) m) :=
  e_formH w4_f (.inl rfl) (goodl_a ht) (good_a hu) w4_st name_a val_a find_a (by rw [find_a, lies_a, hold_a, h1, h2]; simp)
theorem f_new {u : Str} {b : Int} (hu : u ∈ textsL) (hg : goodT u = true) (gl : GoodL L) (hh : holdE "stamp" (findE L "s" "a") (some (u, b)) = false) (hl : L.length ≤ 10) (hm : m + 1 = m') : m_Forms_form [.ptr (B.length + 2), .ptr B.length, .str "a"] (W4 B (kvA u b) c L m) = .ok (.lst (rowsD u)) (W4 B (kvA u b) c (putE L ⟨"s", "a", u, b, wordsT u⟩) m') := by
  rw [← hm, e_formG w4_f (.inl rfl) gl (good_a hu) w4_st name_a val_a hu hg (by rw [lies_a]; exact hh) (by omega), w4_m]
theorem stale_a {t u : Str} {a b : Int} : staleL "stamp" "s" (kvA u b) (enA t a) = if ((a == b) && (((t.length : Nat) : Int) == ((u.length : Nat) : Int))) && !(t == u) then [Str.ofString "a"] else [] := by
  have k1 : keptL "stamp" "s" (kvA u b) (enA t a) = if ((a == b) && (((t.length : Nat) : Int) == ((u.length : Nat) : Int))) = true then [Str.ofString "a"] else [] := by
    have hz : holdZ "stamp" "s" (kvA u b) (enA t a) "a" = ((a == b) && (((t.length : Nat) : Int) == ((u.length : Nat) : Int))) := by
      unfold holdZ
      rw [find_a, lies_a, hold_a]
    unfold keptL
    rw [show enA t a = [⟨"s", "a", t, a, wordsT t⟩] from rfl] at hz ⊢
    rw [List.filter_cons]
    simp only [decide_true, Bool.true_and, hz]
    split <;> rfl
  have dz : difZ "s" (kvA u b) (enA t a) "a" = !(t == u) := by
    unfold difZ
    rw [find_a, lies_a]
    rfl
  unfold staleL
  rw [k1]
  have s0 : sortT [] = [] := List.eq_nil_of_length_eq_zero (sortT_perm []).length_eq
  have s1 : sortT [Str.ofString "a"] = [Str.ofString "a"] := List.perm_singleton.mp (sortT_perm [Str.ofString "a"])
  cases ((a == b) && (((t.length : Nat) : Int) == ((u.length : Nat) : Int))) with
  | false =>
    simp only [Bool.false_eq_true, if_false, Bool.false_and, List.filter_nil]
    exact s0
  | true =>
    simp only [if_true, Bool.true_and, List.filter_cons, dz, List.filter_nil]
    cases (t == u) with
    | false => simpa using s1
    | true => simpa using s0
theorem e_older {t u v : Str} (ht : t ∈ textsL) (hu : u ∈ textsL) (hv : v ∈ textsL) (gt : goodT t = true) (gu : goodT u = true) (gv : goodT v = true) (h1 : t.length = u.length) (h2 : (t == u) = false) (h3 : u ++ "\nnote 1" = v) (h4 : t.length ≠ v.length) :
    ∃ M, m_law_older_good [.ptr B.length, .ptr (B.length + 2), .str t, .str u] (W4 B [] 0 [] 0) = .ok (.bl true) M := by
  have n1 : (((t.length : Nat) : Int) == ((u.length : Nat) : Int)) = true := by rw [h1]; exact beq_self_eq_true _
  have n2 : (((t.length : Nat) : Int) == ((v.length : Nat) : Int)) = false := beq_eq_false_iff_ne.mpr (by omega)
  have w1 := p_a (B := B) (kv := []) (c := 0) (L := []) (m := 0) (a := 5) ht (show 0 ≤ 10 by decide)
  rw [put_0] at w1
  have w2 := f_new (B := B) (c := 5) (L := []) (m := 0) (m' := 1) (b := 5) ht gt (fun x hx => (nomatch hx)) rfl (show 0 ≤ 10 by decide) rfl
  rw [pute_0] at w2
  have w3 := p_a (B := B) (kv := kvA t 5) (c := 5) (L := enA t 5) (m := 1) (a := 5) hu (show 1 ≤ 10 by decide)
  rw [put_a] at w3
  have w4 := f_keep (B := B) (c := 5) (m := 1) (a := 5) (b := 5) ht hu rfl h1
  have w5 := e_stale (w4_f (B := B) (kv := kvA u 5) (c := 5) (L := enA t 5) (m := 1)) (.inl rfl) (goodl_a ht) (good_a hu) w4_st (show 1 < 64 by decide)
  rw [stale_a, n1, h2] at w5
  have w6 := p_a (B := B) (kv := kvA u 5) (c := 5) (L := enA t 5) (m := 1) (a := 6) hu (show 1 ≤ 10 by decide)
  rw [put_a] at w6
  have w7 := f_new (B := B) (c := 6) (L := enA t 5) (m := 1) (m' := 2) (b := 6) hu gu (goodl_a ht) (by rw [find_a, hold_a]; rfl) (show 1 ≤ 10 by decide) rfl
  rw [pute_a] at w7
  have w8 := e_stale (w4_f (B := B) (kv := kvA u 6) (c := 6) (L := enA u 6) (m := 2)) (.inl rfl) (goodl_a hu) (good_a hu) w4_st (show 1 < 64 by decide)
  rw [stale_a, beq_self_eq_true u] at w8
  simp only [Bool.not_true, Bool.and_false, Bool.false_eq_true, if_false] at w8
  have w9 := p_a (B := B) (kv := kvA u 6) (c := 6) (L := enA u 6) (m := 2) (a := 6) ht (show 1 ≤ 10 by decide)
  rw [put_a] at w9
  have wa := f_keep (B := B) (c := 6) (m := 2) (a := 6) (b := 6) hu ht rfl h1.symm
  have wb := e_drop (z := "a") (w4_f (B := B) (kv := kvA t 6) (c := 6) (L := enA u 6) (m := 2)) w4_st
  rw [w4_m, drop_a, find_a] at wb
  have wc := f_new (B := B) (c := 6) (L := []) (m := 2) (m' := 3) (b := 6) ht gt (fun x hx => (nomatch hx)) rfl (show 0 ≤ 10 by decide) rfl
  rw [pute_0] at wc
  have wd := p_a (B := B) (kv := kvA t 6) (c := 6) (L := enA t 6) (m := 3) (a := 6) hv (show 1 ≤ 10 by decide)
  rw [put_a] at wd
  have we := f_new (B := B) (c := 6) (L := enA t 6) (m := 3) (m' := 4) (b := 6) hv gv (goodl_a ht) (by rw [find_a, hold_a, n2]; rfl) (show 1 ≤ 10 by decide) rfl
  rw [pute_a] at we
  have wf := ff_kept (w4_f (B := B) (kv := kvA v 6) (c := 6) (L := enA v 6) (m := 4))
  have rt := fun μ : Mem => body_yes (μ := μ) ht gt
  have ru := fun μ : Mem => body_yes (μ := μ) hu gu
  have rv := fun μ : Mem => body_yes (μ := μ) hv gv
  have et := fun μ : Mem => ne_pl (μ := μ) (d := .lst (rowsD t)) (.inl ⟨_, rfl⟩)
  have eu := fun μ : Mem => ne_pl (μ := μ) (d := .lst (rowsD u)) (.inl ⟨_, rfl⟩)
  have ev := fun μ : Mem => eq_pl (μ := μ) (d := .lst (rowsD v)) (.inl ⟨_, rfl⟩)
  have ea := fun μ : Mem => ne_strs (μ := μ) (l := ["a"])
  have e0 := fun μ : Mem => ne_strs (μ := μ) (l := [])
  have sto := fun kv c L m => (w4_st (B := B) (kv := kv) (c := c) (L := L) (m := m)).o
  have foo := fun kv c L m => (w4_f (B := B) (kv := kv) (c := c) (L := L) (m := m)).o
  have ad : ∀ μ : Mem, oAdd (.str u) (.str (Str.ofString "\nnote 1")) μ = .ok (.str v) μ := fun μ => by
    have := texts_len _ hu
    rw [← h3]
    exact oAdd_str (by have : (Str.ofString "\nnote 1").length = 7 := rfl; omega)
  have kl1 : ((enA v 6).length : Int) = 1 := rfl
  rw [kl1] at wf
  generalize rowsD t = RT at *
  generalize rowsD u = RU at *
  generalize rowsD v = RV at *
  refine ⟨W4 B (kvA v 6) 6 (enA v 6) (4), ?_⟩
  clear ht hu hv gt gu gv h1 h2 h3 h4 n1 n2
  unfold m_law_older_good
  rw [mDef_ap (by rfl)]
  refine Eq.trans (b := O.out (.rt (.bl true) (W4 B (kvA v 6) 6 (enA v 6) (4)))) (congrArg O.out ?_) rfl
  refine seq_step (δ1 := [some (.ptr B.length), some (.ptr (B.length + 2)), some (.str t), some (.str u)]) (μ1 := W4 B (kvA t 5) 5 [] 0) (by simp (disch := first | assumption | omega | (simp; done) | (simp; omega)) [oFld_ptr, oFld_exc, insAt, mMeth_ap, dctAt, oDGet_ptr, oDIn_ptr, stPut_ptr, O_no, sTry_ap, oCatN_pl, bAppend_ptr, srcZ_lp, srcL_ptr, oSl_ptr, oIx_ptr, lstAt,  bCount_dot, bSplit_dot, bRpart_dot, bLstrip_dot, bJoin_dot, bJoin_none, oIx_lst, oIx_tup, oIx_scr, oIx_str, oSl_str, srcR1_int, srcR2_int, cLen_str, oAdd_str, oAdd_lst, oEq_int, oNe_int, oEq_str, oNe_str, mDef_ap, if_no, cLenD_ptr, sto, lkm_put, w1]) ?_
  refine seq_step (δ1 := [some (.ptr B.length), some (.ptr (B.length + 2)), some (.str t), some (.str u)]) (μ1 := W4 B (kvA t 5) 5 (enA t 5) (1)) (by simp (disch := first | assumption | omega | (simp; done) | (simp; omega)) [oFld_ptr, oFld_exc, insAt, mMeth_ap, dctAt, oDGet_ptr, oDIn_ptr, stPut_ptr, O_no, sTry_ap, oCatN_pl, bAppend_ptr, srcZ_lp, srcL_ptr, oSl_ptr, oIx_ptr, lstAt,  bCount_dot, bSplit_dot, bRpart_dot, bLstrip_dot, bJoin_dot, bJoin_none, oIx_lst, oIx_tup, oIx_scr, oIx_str, oSl_str, srcR1_int, srcR2_int, cLen_str, oAdd_str, oAdd_lst, oEq_int, oNe_int, oEq_str, oNe_str, mDef_ap, if_no, cLenD_ptr, foo, lkf_form, w2, rt, et]) ?_
  refine seq_step (δ1 := [some (.ptr B.length), some (.ptr (B.length + 2)), some (.str t), some (.str u)]) (μ1 := W4 B (kvA u 5) 5 (enA t 5) (1)) (by simp (disch := first | assumption | omega | (simp; done) | (simp; omega)) [oFld_ptr, oFld_exc, insAt, mMeth_ap, dctAt, oDGet_ptr, oDIn_ptr, stPut_ptr, O_no, sTry_ap, oCatN_pl, bAppend_ptr, srcZ_lp, srcL_ptr, oSl_ptr, oIx_ptr, lstAt,  bCount_dot, bSplit_dot, bRpart_dot, bLstrip_dot, bJoin_dot, bJoin_none, oIx_lst, oIx_tup, oIx_scr, oIx_str, oSl_str, srcR1_int, srcR2_int, cLen_str, oAdd_str, oAdd_lst, oEq_int, oNe_int, oEq_str, oNe_str, mDef_ap, if_no, cLenD_ptr, sto, lkm_put, w3]) ?_
  refine seq_step (δ1 := [some (.ptr B.length), some (.ptr (B.length + 2)), some (.str t), some (.str u)]) (μ1 := W4 B (kvA u 5) 5 (enA t 5) (1)) (by
    have w5 : m_Forms_stale [.ptr (B.length + 2), .ptr B.length] (W4 B (kvA u 5) 5 (enA t 5) (1)) = .ok (.lst [.str (Str.ofString "a")]) (W4 B (kvA u 5) 5 (enA t 5) 1) := w5
    have ea : ∀ μ : Mem, oNe (.lst [.str (Str.ofString "a")]) (.lst [.str (Str.ofString "a")]) μ = .ok (.bl false) μ := ea
    simp (disch := first | assumption | omega | (simp; done) | (simp; omega)) [oFld_ptr, oFld_exc, insAt, mMeth_ap, dctAt, oDGet_ptr, oDIn_ptr, stPut_ptr, O_no, sTry_ap, oCatN_pl, bAppend_ptr, srcZ_lp, srcL_ptr, oSl_ptr, oIx_ptr, lstAt,  bCount_dot, bSplit_dot, bRpart_dot, bLstrip_dot, bJoin_dot, bJoin_none, oIx_lst, oIx_tup, oIx_scr, oIx_str, oSl_str, srcR1_int, srcR2_int, cLen_str, oAdd_str, oAdd_lst, oEq_int, oNe_int, oEq_str, oNe_str, mDef_ap, if_no, cLenD_ptr, foo, lkf_form, lkf_stale, w4, rt, et, w5, ea, -strsD_cons]) ?_
  refine seq_step (δ1 := [some (.ptr B.length), some (.ptr (B.length + 2)), some (.str t), some (.str u)]) (μ1 := W4 B (kvA u 6) 6 (enA t 5) (1)) (by simp (disch := first | assumption | omega | (simp; done) | (simp; omega)) [oFld_ptr, oFld_exc, insAt, mMeth_ap, dctAt, oDGet_ptr, oDIn_ptr, stPut_ptr, O_no, sTry_ap, oCatN_pl, bAppend_ptr, srcZ_lp, srcL_ptr, oSl_ptr, oIx_ptr, lstAt,  bCount_dot, bSplit_dot, bRpart_dot, bLstrip_dot, bJoin_dot, bJoin_none, oIx_lst, oIx_tup, oIx_scr, oIx_str, oSl_str, srcR1_int, srcR2_int, cLen_str, oAdd_str, oAdd_lst, oEq_int, oNe_int, oEq_str, oNe_str, mDef_ap, if_no, cLenD_ptr, sto, lkm_put, w6]) ?_
  refine seq_step (δ1 := [some (.ptr B.length), some (.ptr (B.length + 2)), some (.str t), some (.str u)]) (μ1 := W4 B (kvA u 6) 6 (enA u 6) (2)) (by
    have e0 : ∀ μ : Mem, oNe (.lst (strsD [])) (.lst []) μ = .ok (.bl false) μ := e0
    simp (disch := first | assumption | omega | (simp; done) | (simp; omega)) [oFld_ptr, oFld_exc, insAt, mMeth_ap, dctAt, oDGet_ptr, oDIn_ptr, stPut_ptr, O_no, sTry_ap, oCatN_pl, bAppend_ptr, srcZ_lp, srcL_ptr, oSl_ptr, oIx_ptr, lstAt,  bCount_dot, bSplit_dot, bRpart_dot, bLstrip_dot, bJoin_dot, bJoin_none, oIx_lst, oIx_tup, oIx_scr, oIx_str, oSl_str, srcR1_int, srcR2_int, cLen_str, oAdd_str, oAdd_lst, oEq_int, oNe_int, oEq_str, oNe_str, mDef_ap, if_no, cLenD_ptr, foo, lkf_form, lkf_stale, w7, ru, eu, w8, e0]) ?_
  refine seq_step (δ1 := [some (.ptr B.length), some (.ptr (B.length + 2)), some (.str t), some (.str u)]) (μ1 := W4 B (kvA t 6) 6 (enA u 6) (2)) (by simp (disch := first | assumption | omega | (simp; done) | (simp; omega)) [oFld_ptr, oFld_exc, insAt, mMeth_ap, dctAt, oDGet_ptr, oDIn_ptr, stPut_ptr, O_no, sTry_ap, oCatN_pl, bAppend_ptr, srcZ_lp, srcL_ptr, oSl_ptr, oIx_ptr, lstAt,  bCount_dot, bSplit_dot, bRpart_dot, bLstrip_dot, bJoin_dot, bJoin_none, oIx_lst, oIx_tup, oIx_scr, oIx_str, oSl_str, srcR1_int, srcR2_int, cLen_str, oAdd_str, oAdd_lst, oEq_int, oNe_int, oEq_str, oNe_str, mDef_ap, if_no, cLenD_ptr, sto, lkm_put, w9]) ?_
  refine seq_step (δ1 := [some (.ptr B.length), some (.ptr (B.length + 2)), some (.str t), some (.str u)]) (μ1 := W4 B (kvA t 6) 6 [] (2)) (by simp (disch := first | assumption | omega | (simp; done) | (simp; omega)) [oFld_ptr, oFld_exc, insAt, mMeth_ap, dctAt, oDGet_ptr, oDIn_ptr, stPut_ptr, O_no, sTry_ap, oCatN_pl, bAppend_ptr, srcZ_lp, srcL_ptr, oSl_ptr, oIx_ptr, lstAt,  bCount_dot, bSplit_dot, bRpart_dot, bLstrip_dot, bJoin_dot, bJoin_none, oIx_lst, oIx_tup, oIx_scr, oIx_str, oSl_str, srcR1_int, srcR2_int, cLen_str, oAdd_str, oAdd_lst, oEq_int, oNe_int, oEq_str, oNe_str, mDef_ap, if_no, cLenD_ptr, foo, lkf_form, lkf_drop, wa, ru, eu, wb, oIsB_bl]) ?_
  refine seq_step (δ1 := [some (.ptr B.length), some (.ptr (B.length + 2)), some (.str t), some (.str u)]) (μ1 := W4 B (kvA t 6) 6 (enA t 6) (3)) (by simp (disch := first | assumption | omega | (simp; done) | (simp; omega)) [oFld_ptr, oFld_exc, insAt, mMeth_ap, dctAt, oDGet_ptr, oDIn_ptr, stPut_ptr, O_no, sTry_ap, oCatN_pl, bAppend_ptr, srcZ_lp, srcL_ptr, oSl_ptr, oIx_ptr, lstAt,  bCount_dot, bSplit_dot, bRpart_dot, bLstrip_dot, bJoin_dot, bJoin_none, oIx_lst, oIx_tup, oIx_scr, oIx_str, oSl_str, srcR1_int, srcR2_int, cLen_str, oAdd_str, oAdd_lst, oEq_int, oNe_int, oEq_str, oNe_str, mDef_ap, if_no, cLenD_ptr, foo, lkf_form, wc, rt, et]) ?_
  refine seq_step (δ1 := [some (.ptr B.length), some (.ptr (B.length + 2)), some (.str t), some (.str u)]) (μ1 := W4 B (kvA v 6) 6 (enA t 6) (3)) (by simp (disch := first | assumption | omega | (simp; done) | (simp; omega)) [oFld_ptr, oFld_exc, insAt, mMeth_ap, dctAt, oDGet_ptr, oDIn_ptr, stPut_ptr, O_no, sTry_ap, oCatN_pl, bAppend_ptr, srcZ_lp, srcL_ptr, oSl_ptr, oIx_ptr, lstAt,  bCount_dot, bSplit_dot, bRpart_dot, bLstrip_dot, bJoin_dot, bJoin_none, oIx_lst, oIx_tup, oIx_scr, oIx_str, oSl_str, srcR1_int, srcR2_int, cLen_str, oAdd_str, oAdd_lst, oEq_int, oNe_int, oEq_str, oNe_str, mDef_ap, if_no, cLenD_ptr, sto, lkm_put, ad, wd, -oAdd_str]) ?_
  simp (disch := first | assumption | omega | (simp; done) | (simp; omega)) [oFld_ptr, oFld_exc, insAt, mMeth_ap, dctAt, oDGet_ptr, oDIn_ptr, stPut_ptr, O_no, sTry_ap, oCatN_pl, bAppend_ptr, srcZ_lp, srcL_ptr, oSl_ptr, oIx_ptr, lstAt,  bCount_dot, bSplit_dot, bRpart_dot, bLstrip_dot, bJoin_dot, bJoin_none, oIx_lst, oIx_tup, oIx_scr, oIx_str, oSl_str, srcR1_int, srcR2_int, cLen_str, oAdd_str, oAdd_lst, oEq_int, oNe_int, oEq_str, oNe_str, mDef_ap, if_no, cLenD_ptr, foo, lkf_form, we, ad, rv, ev, wf, -oFld_ptr, -oAdd_str]
end
theorem pair_ok : ∀ i : Int, 0 ≤ i ∧ i < 3 → ∃ t u v, L2.atI [Dt.str "set a 1", .str "note 12", .str "load ab"] i = some (.str t) ∧ L2.atI [Dt.str "set b 2", .str "note 34", .str "drop cd"] i = some (.str u) ∧ t ∈ textsL ∧ u ∈ textsL ∧ v ∈ textsL ∧ goodT t = true ∧ goodT u = true ∧ goodT v = true ∧ t.length = u.length ∧ (t == u) = false ∧ u ++ "\nnote 1" = v ∧ t.length ≠ v.length := fun i h => by
  have : i = 0 ∨ i = 1 ∨ i = 2 := by omega
  rcases this with rfl | rfl | rfl
  · exact ⟨"set a 1", "set b 2", "set b 2\nnote 1", rfl, rfl, by decide +kernel, by decide +kernel, by decide +kernel, by decide +kernel, by decide +kernel, by decide +kernel, rfl, by decide +kernel, by decide +kernel, by decide +kernel⟩
  · exact ⟨"note 12", "note 34", "note 34\nnote 1", rfl, rfl, by decide +kernel, by decide +kernel, by decide +kernel, by decide +kernel, by decide +kernel, by decide +kernel, rfl, by decide +kernel, by decide +kernel, by decide +kernel⟩
  · exact ⟨"load ab", "drop cd", "drop cd\nnote 1", rfl, rfl, by decide +kernel, by decide +kernel, by decide +kernel, by decide +kernel, by decide +kernel, by decide +kernel, rfl, by decide +kernel, by decide +kernel, by decide +kernel⟩
section
variable {ns : List Int}
theorem e_law1 {k : Nat} (hk : k < 2) {e2 e3 e4 e5 : Option Dt} {B : Mem} : ∃ B' y2 y3, b_law_1 [some (.scr (ns.map Dt.int)), some (.int (k : Int)), e2, e3, e4, e5] B = .nx [some (.scr (ns.map Dt.int)), some (.int (k : Int)), y2, y3, e4, e5] B' := by
  have hc := e_cell (μ := B) (ns := ns) (k := (k : Int)) (by omega) (by omega)
  generalize cellF ns (k : Int) = N at hc
  have p1 : (B ++ [MO.lst [.int N]])[B.length]? = some (.lst [.int N]) := by simp
  have t1 := e_take p1 (k := 30) (by decide) (by decide)
  have b1 := fmod_lt (a := N) (b := 30) (by decide)
  generalize (B ++ [MO.lst [.int N]]).set B.length (.lst [.int (N.fdiv 30)]) = B1 at t1
  obtain ⟨q, hq⟩ : ∃ q : Nat, 1 + N.fmod 30 = (q : Int) := ⟨(1 + N.fmod 30).toNat, by omega⟩
  obtain ⟨B2, h2⟩ := e_history (B := B1) (ns := ns) (own := true) (st := 2 + 30 * (k : Int)) (q := q) (by omega) (by omega) (by omega)
  obtain ⟨B3, h3⟩ := e_history (B := B2) (ns := ns) (own := false) (st := 2 + 30 * (k : Int)) (q := q) (by omega) (by omega) (by omega)
  refine ⟨B3, some (.int (q : Int)), some (.bl false), ?_⟩
  have cm : CMulW 30 (k : Int) := cmw 5 2 (by decide) (by omega)
  have m30 : ∀ μ : Mem, oMul (.int 30) (.int (k : Int)) μ = .ok (.int (30 * (k : Int))) μ := fun μ => oMul_int cm
  rw [b_law_1_ap]
  refine seq_step (δ1 := [some (.scr (ns.map Dt.int)), some (.int (k : Int)), some (.int (q : Int)), e3, e4, e5]) (μ1 := B1) (by simp (disch := first | assumption | omega | (simp; done) | (simp; omega)) [oFld_ptr, oFld_exc, insAt, mMeth_ap, dctAt, oDGet_ptr, oDIn_ptr, stPut_ptr, O_no, sTry_ap, oCatN_pl, bAppend_ptr, srcZ_lp, srcL_ptr, oSl_ptr, oIx_ptr, lstAt,  bCount_dot, bSplit_dot, bRpart_dot, bLstrip_dot, bJoin_dot, bJoin_none, oIx_lst, oIx_tup, oIx_scr, oIx_str, oSl_str, srcR1_int, srcR2_int, cLen_str, oAdd_str, oAdd_lst, oEq_int, oNe_int, oEq_str, oNe_str, mDef_ap, if_no, cLenD_ptr, hc, t1, hq]) ?_
  have b2 : b_law_2 [some (.scr (ns.map Dt.int)), some (.int (k : Int)), some (.int (q : Int)), some (.bl true), e4, e5] B1 = .nx [some (.scr (ns.map Dt.int)), some (.int (k : Int)), some (.int (q : Int)), some (.bl true), e4, e5] B2 := by
    simp (disch := first | assumption | omega | (simp; done) | (simp; omega)) [oFld_ptr, oFld_exc, insAt, mMeth_ap, dctAt, oDGet_ptr, oDIn_ptr, stPut_ptr, O_no, sTry_ap, oCatN_pl, bAppend_ptr, srcZ_lp, srcL_ptr, oSl_ptr, oIx_ptr, lstAt,  bCount_dot, bSplit_dot, bRpart_dot, bLstrip_dot, bJoin_dot, bJoin_none, oIx_lst, oIx_tup, oIx_scr, oIx_str, oSl_str, srcR1_int, srcR2_int, cLen_str, oAdd_str, oAdd_lst, oEq_int, oNe_int, oEq_str, oNe_str, mDef_ap, if_no, cLenD_ptr, b_law_2_ap, m30, h2]
  have b3 : b_law_2 [some (.scr (ns.map Dt.int)), some (.int (k : Int)), some (.int (q : Int)), some (.bl false), e4, e5] B2 = .nx [some (.scr (ns.map Dt.int)), some (.int (k : Int)), some (.int (q : Int)), some (.bl false), e4, e5] B3 := by
    simp (disch := first | assumption | omega | (simp; done) | (simp; omega)) [oFld_ptr, oFld_exc, insAt, mMeth_ap, dctAt, oDGet_ptr, oDIn_ptr, stPut_ptr, O_no, sTry_ap, oCatN_pl, bAppend_ptr, srcZ_lp, srcL_ptr, oSl_ptr, oIx_ptr, lstAt,  bCount_dot, bSplit_dot, bRpart_dot, bLstrip_dot, bJoin_dot, bJoin_none, oIx_lst, oIx_tup, oIx_scr, oIx_str, oSl_str, srcR1_int, srcR2_int, cLen_str, oAdd_str, oAdd_lst, oEq_int, oNe_int, oEq_str, oNe_str, mDef_ap, if_no, cLenD_ptr, b_law_2_ap, m30, h3]
  simp (disch := first | assumption | omega | (simp; done) | (simp; omega)) [oFld_ptr, oFld_exc, insAt, mMeth_ap, dctAt, oDGet_ptr, oDIn_ptr, stPut_ptr, O_no, sTry_ap, oCatN_pl, bAppend_ptr, srcZ_lp, srcL_ptr, oSl_ptr, oIx_ptr, lstAt,  bCount_dot, bSplit_dot, bRpart_dot, bLstrip_dot, bJoin_dot, bJoin_none, oIx_lst, oIx_tup, oIx_scr, oIx_str, oSl_str, srcR1_int, srcR2_int, cLen_str, oAdd_str, oAdd_lst, oEq_int, oNe_int, oEq_str, oNe_str, mDef_ap, if_no, cLenD_ptr, forL, b2, b3]
end
theorem law_true : ∀ ns : List Int, ns.length ≤ 63 → ∃ μ, m_law [.scr (ns.map Dt.int)] [] = .ok (.bl true) μ := by
  intro ns hns
  obtain ⟨δ', B, g1, p1⟩ := forL_run (fun i δ' μ' => ∃ y1 y2 y3, δ' = [some (.scr (ns.map Dt.int)), y1, y2, y3, none, none]) (tg := gSet 1) (body := b_law_1) (ds := rngD 0 2) (δ := [some (.scr (ns.map Dt.int)), none, none, none, none, none]) (μ := []) ⟨none, none, none, rfl⟩ (by
    rintro i d δ μ2 hd ⟨y1, y2, y3, rfl⟩
    obtain ⟨rfl, hi⟩ := rng_at15 hd
    obtain ⟨B', z2, z3, g⟩ := e_law1 (ns := ns) hi (e2 := y2) (e3 := y3) (e4 := none) (e5 := none) (B := μ2)
    exact ⟨_, _, B', rfl, g, _, z2, z3, rfl⟩)
  obtain ⟨y1, y2, y3, rfl⟩ := p1
  have hc := e_cell (μ := B) (ns := ns) (k := 62) (by omega) (by omega)
  generalize cellF ns 62 = N at hc
  have q1 : (B ++ [MO.lst [.int N]])[B.length]? = some (.lst [.int N]) := by simp
  have t1 := e_take q1 (k := 3) (by decide) (by decide)
  have b1 := fmod_lt (a := N) (b := 3) (by decide)
  generalize (B ++ [MO.lst [.int N]]).set B.length (.lst [.int (N.fdiv 3)]) = C at t1
  generalize N.fmod 3 = i at t1 b1
  obtain ⟨t, u, v, a1, a2, ht, hu, hv, gt, gu, gv, h1, h2, h3, h4⟩ := pair_ok i b1
  have i1 : m_Store___init__ [.ptr C.length, .str "s"] (C ++ [.ins 14 []]) = .ok .non (C ++ [.ins 14 (stF "s" (C.length + 1) 0), .dK []]) := by
    have e := e_init (μ := C ++ [.ins 14 []]) (p := C.length) (z := "s") (by decide +kernel) (by simp)
    rw [e]
    simp
  have i2 : m_Forms___init__ [.ptr (C.length + 2), .str "stamp"] (C ++ [.ins 14 (stF "s" (C.length + 1) 0), .dK [], .ins 16 []]) = .ok .non (W4 C [] 0 [] 0) := by
    have e := e_finit (μ := C ++ [.ins 14 (stF "s" (C.length + 1) 0), .dK [], .ins 16 []]) (f := C.length + 2) (chk := "stamp") (.inl rfl) (by simp)
    rw [e]
    simp [W4, os4]
  obtain ⟨M, g2⟩ := e_older (B := C) ht hu hv gt gu gv h1 h2 h3 h4
  refine ⟨M, ?_⟩
  generalize hW4 : W4 C [] 0 [] 0 = W at i2 g2
  unfold m_law
  rw [mDef_ap (by rfl)]
  refine Eq.trans (b := O.out (.rt (.bl true) M)) (congrArg O.out ?_) rfl
  refine seq_step (δ1 := [some (.scr (ns.map Dt.int)), y1, y2, y3, none, none]) (μ1 := B) (by simp (disch := first | assumption | omega | (simp; done) | (simp; omega)) [oFld_ptr, oFld_exc, insAt, mMeth_ap, dctAt, oDGet_ptr, oDIn_ptr, stPut_ptr, O_no, sTry_ap, oCatN_pl, bAppend_ptr, srcZ_lp, srcL_ptr, oSl_ptr, oIx_ptr, lstAt,  bCount_dot, bSplit_dot, bRpart_dot, bLstrip_dot, bJoin_dot, bJoin_none, oIx_lst, oIx_tup, oIx_scr, oIx_str, oSl_str, srcR1_int, srcR2_int, cLen_str, oAdd_str, oAdd_lst, oEq_int, oNe_int, oEq_str, oNe_str, mDef_ap, if_no, cLenD_ptr, g1]) ?_
  refine seq_step (δ1 := [some (.scr (ns.map Dt.int)), y1, y2, y3, some (.int i), none]) (μ1 := C) (by simp (disch := first | assumption | omega | (simp; done) | (simp; omega)) [oFld_ptr, oFld_exc, insAt, mMeth_ap, dctAt, oDGet_ptr, oDIn_ptr, stPut_ptr, O_no, sTry_ap, oCatN_pl, bAppend_ptr, srcZ_lp, srcL_ptr, oSl_ptr, oIx_ptr, lstAt,  bCount_dot, bSplit_dot, bRpart_dot, bLstrip_dot, bJoin_dot, bJoin_none, oIx_lst, oIx_tup, oIx_scr, oIx_str, oSl_str, srcR1_int, srcR2_int, cLen_str, oAdd_str, oAdd_lst, oEq_int, oNe_int, oEq_str, oNe_str, mDef_ap, if_no, cLenD_ptr, hc, t1]) ?_
  refine seq_step (δ1 := [some (.scr (ns.map Dt.int)), y1, y2, y3, some (.int i), some (.str t)]) (μ1 := C) (by simp (disch := first | assumption | omega | (simp; done) | (simp; omega)) [oFld_ptr, oFld_exc, insAt, mMeth_ap, dctAt, oDGet_ptr, oDIn_ptr, stPut_ptr, O_no, sTry_ap, oCatN_pl, bAppend_ptr, srcZ_lp, srcL_ptr, oSl_ptr, oIx_ptr, lstAt,  bCount_dot, bSplit_dot, bRpart_dot, bLstrip_dot, bJoin_dot, bJoin_none, oIx_lst, oIx_tup, oIx_scr, oIx_str, oSl_str, srcR1_int, srcR2_int, cLen_str, oAdd_str, oAdd_lst, oEq_int, oNe_int, oEq_str, oNe_str, mDef_ap, if_no, cLenD_ptr, a1, -strsD_cons]) ?_
  simp (disch := first | assumption | omega | (simp; done) | (simp; omega)) [oFld_ptr, oFld_exc, insAt, mMeth_ap, dctAt, oDGet_ptr, oDIn_ptr, stPut_ptr, O_no, sTry_ap, oCatN_pl, bAppend_ptr, srcZ_lp, srcL_ptr, oSl_ptr, oIx_ptr, lstAt,  bCount_dot, bSplit_dot, bRpart_dot, bLstrip_dot, bJoin_dot, bJoin_none, oIx_lst, oIx_tup, oIx_scr, oIx_str, oSl_str, srcR1_int, srcR2_int, cLen_str, oAdd_str, oAdd_lst, oEq_int, oNe_int, oEq_str, oNe_str, mDef_ap, if_no, cLenD_ptr, i1, i2, a2, g2, -strsD_cons]

theorem all_mk {l : PySem.W.OpenLaw} {w : World} {K : PySem.W.Frag} {h : Heap} {mg : Str → Option Value} {fa : Addr} (X : K.In h) (G : h.Ns mainGlobals mg) (hfa : mg "law" = some (.ref fa))
    {CNoLine : Addr}
    {CNoBody : Addr}
    {CNotFound : Addr}
    {CStore : Addr}
    {CLists : Addr}
    {CForms : Addr}
    {f0 : Addr} {od0 an0 : Option Addr} {sl0 : Array (Option Value)} {oc0 kV0 dc0 pm0 cd0 ct0 : Value}
    {f1 : Addr} {od1 an1 : Option Addr} {sl1 : Array (Option Value)} {oc1 kV1 dc1 pm1 cd1 ct1 : Value}
    {f2 : Addr} {od2 an2 : Option Addr} {sl2 : Array (Option Value)} {oc2 kV2 dc2 pm2 cd2 ct2 : Value}
    {f3 : Addr} {od3 an3 : Option Addr} {sl3 : Array (Option Value)} {oc3 kV3 dc3 pm3 cd3 ct3 : Value}
    {f4 : Addr} {od4 an4 : Option Addr} {sl4 : Array (Option Value)} {oc4 kV4 dc4 pm4 cd4 ct4 : Value}
    {f5 : Addr} {od5 an5 : Option Addr} {sl5 : Array (Option Value)} {oc5 dc5 pm5 cd5 ct5 : Value} {kD5 : Addr}
    {tq5_check : Tok}
    {f6 : Addr} {od6 an6 : Option Addr} {sl6 : Array (Option Value)} {oc6 kV6 dc6 pm6 cd6 ct6 : Value}
    {f7 : Addr} {od7 an7 : Option Addr} {sl7 : Array (Option Value)} {oc7 kV7 dc7 pm7 cd7 ct7 : Value}
    {f8 : Addr} {od8 an8 : Option Addr} {sl8 : Array (Option Value)} {oc8 dc8 pm8 cd8 ct8 : Value} {kD8 : Addr}
    {tq8 nt8 : Nat} {otq8 : Option Addr} {stq8 : Array (Option Value)}
    {f9 : Addr} {od9 an9 : Option Addr} {sl9 : Array (Option Value)} {oc9 dc9 pm9 cd9 ct9 : Value} {kD9 : Addr}
    {tq9_at : Tok}
    {f10 : Addr} {od10 an10 : Option Addr} {sl10 : Array (Option Value)} {oc10 kV10 dc10 pm10 cd10 ct10 : Value}
    {f11 : Addr} {od11 an11 : Option Addr} {sl11 : Array (Option Value)} {oc11 dc11 pm11 cd11 ct11 : Value} {kD11 : Addr}
    {tq11 nt11 : Nat} {otq11 : Option Addr} {stq11 : Array (Option Value)}
    {f12 : Addr} {od12 an12 : Option Addr} {sl12 : Array (Option Value)} {oc12 kV12 dc12 pm12 cd12 ct12 : Value}
    {f13 : Addr} {od13 an13 : Option Addr} {sl13 : Array (Option Value)} {oc13 kV13 dc13 pm13 cd13 ct13 : Value}
    {f14 : Addr} {od14 an14 : Option Addr} {sl14 : Array (Option Value)} {oc14 kV14 dc14 pm14 cd14 ct14 : Value}
    {f15 : Addr} {od15 an15 : Option Addr} {sl15 : Array (Option Value)} {oc15 kV15 dc15 pm15 cd15 ct15 : Value}
    {f16 : Addr} {od16 an16 : Option Addr} {sl16 : Array (Option Value)} {oc16 kV16 dc16 pm16 cd16 ct16 : Value}
    {f17 : Addr} {od17 an17 : Option Addr} {sl17 : Array (Option Value)} {oc17 kV17 dc17 pm17 cd17 ct17 : Value}
    {f18 : Addr} {od18 an18 : Option Addr} {sl18 : Array (Option Value)} {oc18 kV18 dc18 pm18 cd18 ct18 : Value}
    {f19 : Addr} {od19 an19 : Option Addr} {sl19 : Array (Option Value)} {oc19 kV19 dc19 pm19 cd19 ct19 : Value}
    {f20 : Addr} {od20 an20 : Option Addr} {sl20 : Array (Option Value)} {oc20 dc20 pm20 cd20 ct20 : Value} {kD20 : Addr}
    {tq20_most : Tok}
    {f21 : Addr} {od21 an21 : Option Addr} {sl21 : Array (Option Value)} {oc21 kV21 dc21 pm21 cd21 ct21 : Value}
    {f22 : Addr} {od22 an22 : Option Addr} {sl22 : Array (Option Value)} {oc22 kV22 dc22 pm22 cd22 ct22 : Value}
    {f23 : Addr} {od23 an23 : Option Addr} {sl23 : Array (Option Value)} {oc23 kV23 dc23 pm23 cd23 ct23 : Value}
    {f24 : Addr} {od24 an24 : Option Addr} {sl24 : Array (Option Value)} {oc24 kV24 dc24 pm24 cd24 ct24 : Value}
    {f25 : Addr} {od25 an25 : Option Addr} {sl25 : Array (Option Value)} {oc25 kV25 dc25 pm25 cd25 ct25 : Value}
    {f26 : Addr} {od26 an26 : Option Addr} {sl26 : Array (Option Value)} {oc26 kV26 dc26 pm26 cd26 ct26 : Value}
    {f27 : Addr} {od27 an27 : Option Addr} {sl27 : Array (Option Value)} {oc27 kV27 dc27 pm27 cd27 ct27 : Value}
    {f28 : Addr} {od28 an28 : Option Addr} {sl28 : Array (Option Value)} {oc28 kV28 dc28 pm28 cd28 ct28 : Value}
    {f29 : Addr} {od29 an29 : Option Addr} {sl29 : Array (Option Value)} {oc29 kV29 dc29 pm29 cd29 ct29 : Value}
    {f30 : Addr} {od30 an30 : Option Addr} {sl30 : Array (Option Value)} {oc30 dc30 pm30 cd30 ct30 : Value} {kD30 : Addr}
    {tq30_at : Tok}
    {f31 : Addr} {od31 an31 : Option Addr} {sl31 : Array (Option Value)} {oc31 kV31 dc31 pm31 cd31 ct31 : Value}
    {f32 : Addr} {od32 an32 : Option Addr} {sl32 : Array (Option Value)} {oc32 kV32 dc32 pm32 cd32 ct32 : Value}
    {f33 : Addr} {od33 an33 : Option Addr} {sl33 : Array (Option Value)} {oc33 kV33 dc33 pm33 cd33 ct33 : Value}
    {f34 : Addr} {od34 an34 : Option Addr} {sl34 : Array (Option Value)} {oc34 kV34 dc34 pm34 cd34 ct34 : Value}
    {f35 : Addr} {od35 an35 : Option Addr} {sl35 : Array (Option Value)} {oc35 kV35 dc35 pm35 cd35 ct35 : Value}
    {f36 : Addr} {od36 an36 : Option Addr} {sl36 : Array (Option Value)} {oc36 kV36 dc36 pm36 cd36 ct36 : Value}
    {f37 : Addr} {od37 an37 : Option Addr} {sl37 : Array (Option Value)} {oc37 kV37 dc37 pm37 cd37 ct37 : Value}
    {ctA_CHECKS ctN_CHECKS : Nat} {ctO_CHECKS : Option Addr} {ctS_CHECKS : Array (Option Value)} {ct_CHECKS_0 ct_CHECKS_1 : Tok}
    {tk_LONGEST : Tok}
    {tk_SMALL : Tok}
    {tk_MOST_PARTS : Tok}
    {tk_MOST_FIGURES : Tok}
    {tk_FIGURES : Tok}
    {tk_MOST_TERMS : Tok}
    (g_NoLine : PySem.W.nsIn K mainGlobals "NoLine" = some (some (.ref CNoLine)))
    (g_NoBody : PySem.W.nsIn K mainGlobals "NoBody" = some (some (.ref CNoBody)))
    (g_NotFound : PySem.W.nsIn K mainGlobals "NotFound" = some (some (.ref CNotFound)))
    (g_Store : PySem.W.nsIn K mainGlobals "Store" = some (some (.ref CStore)))
    (g_Lists : PySem.W.nsIn K mainGlobals "Lists" = some (some (.ref CLists)))
    (g_Forms : PySem.W.nsIn K mainGlobals "Forms" = some (some (.ref CForms)))
    (mk_Store : PySem.W.makesIn K CStore = true)
    (kp_Store : PySem.W.keepIn K (.ref CStore) = true)
    (pg_Store : PySem.W.plainGet K CStore Str.empty = true)
    (hd_Store : PySem.W.hasDictIn K CStore = true)
    (po_Store : PySem.W.plainOver K CStore = true)
    (sa_Store : PySem.W.findIn K (.ref CStore) "__setattr__" = some (some (.builtin "object.__setattr__")))
    (na_Store_name : PySem.W.findIn K (.ref CStore) "name" = some none)
    (na_Store_bodies : PySem.W.findIn K (.ref CStore) "bodies" = some none)
    (na_Store_changed : PySem.W.findIn K (.ref CStore) "changed" = some none)
    (mk_Lists : PySem.W.makesIn K CLists = true)
    (kp_Lists : PySem.W.keepIn K (.ref CLists) = true)
    (pg_Lists : PySem.W.plainGet K CLists Str.empty = true)
    (hd_Lists : PySem.W.hasDictIn K CLists = true)
    (po_Lists : PySem.W.plainOver K CLists = true)
    (sa_Lists : PySem.W.findIn K (.ref CLists) "__setattr__" = some (some (.builtin "object.__setattr__")))
    (na_Lists_known : PySem.W.findIn K (.ref CLists) "known" = some none)
    (mk_Forms : PySem.W.makesIn K CForms = true)
    (kp_Forms : PySem.W.keepIn K (.ref CForms) = true)
    (pg_Forms : PySem.W.plainGet K CForms Str.empty = true)
    (hd_Forms : PySem.W.hasDictIn K CForms = true)
    (po_Forms : PySem.W.plainOver K CForms = true)
    (sa_Forms : PySem.W.findIn K (.ref CForms) "__setattr__" = some (some (.builtin "object.__setattr__")))
    (na_Forms_check : PySem.W.findIn K (.ref CForms) "check" = some none)
    (na_Forms_read : PySem.W.findIn K (.ref CForms) "read" = some none)
    (na_Forms_made : PySem.W.findIn K (.ref CForms) "made" = some none)
    (na_Forms_kept : PySem.W.findIn K (.ref CForms) "kept" = some none)
    (a0 : PySem.W.nsIn K mainGlobals "_law_take" = some (some (.ref f0)))
    (l0 : K.lookup f0 = some ⟨oc0, od0, .func (PySem.W.fnOf "_law_take" "_law_take" (defArgs s_law_take) (defBody s_law_take) (defScope s_law_take) .none kV0 dc0 pm0 an0 cd0 ct0), sl0⟩)
    (c0 : PySem.W.codeIn K cd0 "_law_take" = true)
    (k0 : PySem.W.keepIn K (.ref f0) = true)
    (a1 : PySem.W.nsIn K mainGlobals "is_part" = some (some (.ref f1)))
    (l1 : K.lookup f1 = some ⟨oc1, od1, .func (PySem.W.fnOf "is_part" "is_part" (defArgs s_is_part) (defBody s_is_part) (defScope s_is_part) .none kV1 dc1 pm1 an1 cd1 ct1), sl1⟩)
    (c1 : PySem.W.codeIn K cd1 "is_part" = true)
    (k1 : PySem.W.keepIn K (.ref f1) = true)
    (a2 : PySem.W.nsIn K mainGlobals "is_name" = some (some (.ref f2)))
    (l2 : K.lookup f2 = some ⟨oc2, od2, .func (PySem.W.fnOf "is_name" "is_name" (defArgs s_is_name) (defBody s_is_name) (defScope s_is_name) .none kV2 dc2 pm2 an2 cd2 ct2), sl2⟩)
    (c2 : PySem.W.codeIn K cd2 "is_name" = true)
    (k2 : PySem.W.keepIn K (.ref f2) = true)
    (a3 : PySem.W.nsIn K mainGlobals "look_at_name" = some (some (.ref f3)))
    (l3 : K.lookup f3 = some ⟨oc3, od3, .func (PySem.W.fnOf "look_at_name" "look_at_name" (defArgs s_look_at_name) (defBody s_look_at_name) (defScope s_look_at_name) .none kV3 dc3 pm3 an3 cd3 ct3), sl3⟩)
    (c3 : PySem.W.codeIn K cd3 "look_at_name" = true)
    (k3 : PySem.W.keepIn K (.ref f3) = true)
    (a4 : PySem.W.nsIn K mainGlobals "look_at_check" = some (some (.ref f4)))
    (l4 : K.lookup f4 = some ⟨oc4, od4, .func (PySem.W.fnOf "look_at_check" "look_at_check" (defArgs s_look_at_check) (defBody s_look_at_check) (defScope s_look_at_check) .none kV4 dc4 pm4 an4 cd4 ct4), sl4⟩)
    (c4 : PySem.W.codeIn K cd4 "look_at_check" = true)
    (k4 : PySem.W.keepIn K (.ref f4) = true)
    (a5 : PySem.W.findIn K (.ref CForms) "__init__" = some (some (.ref f5)))
    (fn5 : PySem.W.isFn K (.ref f5) = true)
    (l5 : K.lookup f5 = some ⟨oc5, od5, .func (PySem.W.fnOf "__init__" "Forms.__init__" (defArgs s_Forms___init__) (defBody s_Forms___init__) (defScope s_Forms___init__) .none (.ref kD5) dc5 pm5 an5 cd5 ct5), sl5⟩)
    (c5 : PySem.W.codeIn K cd5 "Forms.__init__" = true)
    (k5 : PySem.W.keepIn K (.ref f5) = true)
    (q5_check : PySem.W.nsIn K kD5 "check" = some (some (.str "stamp" tq5_check)))
    (a6 : PySem.W.findIn K (.ref CStore) "__init__" = some (some (.ref f6)))
    (fn6 : PySem.W.isFn K (.ref f6) = true)
    (l6 : K.lookup f6 = some ⟨oc6, od6, .func (PySem.W.fnOf "__init__" "Store.__init__" (defArgs s_Store___init__) (defBody s_Store___init__) (defScope s_Store___init__) .none kV6 dc6 pm6 an6 cd6 ct6), sl6⟩)
    (c6 : PySem.W.codeIn K cd6 "Store.__init__" = true)
    (k6 : PySem.W.keepIn K (.ref f6) = true)
    (a7 : PySem.W.findIn K (.ref CLists) "__init__" = some (some (.ref f7)))
    (fn7 : PySem.W.isFn K (.ref f7) = true)
    (l7 : K.lookup f7 = some ⟨oc7, od7, .func (PySem.W.fnOf "__init__" "Lists.__init__" (defArgs s_Lists___init__) (defBody s_Lists___init__) (defScope s_Lists___init__) .none kV7 dc7 pm7 an7 cd7 ct7), sl7⟩)
    (c7 : PySem.W.codeIn K cd7 "Lists.__init__" = true)
    (k7 : PySem.W.keepIn K (.ref f7) = true)
    (a8 : PySem.W.findIn K (.ref CNoBody) "__init__" = some (some (.ref f8)))
    (fn8 : PySem.W.isFn K (.ref f8) = true)
    (y8 : PySem.W.typeIn K (.ref f8) = some (.type "function"))
    (l8 : K.lookup f8 = some ⟨oc8, od8, .func (PySem.W.fnOf "__init__" "NoBody.__init__" (defArgs s_NoBody___init__) (defBody s_NoBody___init__) (defScope s_NoBody___init__) .none (.ref kD8) dc8 pm8 an8 cd8 ct8), sl8⟩)
    (c8 : PySem.W.codeIn K cd8 "NoBody.__init__" = true)
    (k8 : PySem.W.keepIn K (.ref f8) = true)
    (q8_trail : PySem.W.nsIn K kD8 "trail" = some (some (.ref tq8)))
    (kt8 : K.lookup tq8 = some ⟨.type "tuple", otq8, .seq #[] nt8, stq8⟩)
    (a9 : PySem.W.findIn K (.ref CStore) "put" = some (some (.ref f9)))
    (fn9 : PySem.W.isFn K (.ref f9) = true)
    (l9 : K.lookup f9 = some ⟨oc9, od9, .func (PySem.W.fnOf "put" "Store.put" (defArgs s_Store_put) (defBody s_Store_put) (defScope s_Store_put) .none (.ref kD9) dc9 pm9 an9 cd9 ct9), sl9⟩)
    (c9 : PySem.W.codeIn K cd9 "Store.put" = true)
    (k9 : PySem.W.keepIn K (.ref f9) = true)
    (q9_pack : PySem.W.nsIn K kD9 "pack" = some (some (.bool false)))
    (q9_at : PySem.W.nsIn K kD9 "at" = some (some (.int 0 tq9_at)))
    (a10 : PySem.W.findIn K (.ref CStore) "entry" = some (some (.ref f10)))
    (fn10 : PySem.W.isFn K (.ref f10) = true)
    (l10 : K.lookup f10 = some ⟨oc10, od10, .func (PySem.W.fnOf "entry" "Store.entry" (defArgs s_Store_entry) (defBody s_Store_entry) (defScope s_Store_entry) .none kV10 dc10 pm10 an10 cd10 ct10), sl10⟩)
    (c10 : PySem.W.codeIn K cd10 "Store.entry" = true)
    (k10 : PySem.W.keepIn K (.ref f10) = true)
    (a11 : PySem.W.findIn K (.ref CNotFound) "__init__" = some (some (.ref f11)))
    (fn11 : PySem.W.isFn K (.ref f11) = true)
    (y11 : PySem.W.typeIn K (.ref f11) = some (.type "function"))
    (l11 : K.lookup f11 = some ⟨oc11, od11, .func (PySem.W.fnOf "__init__" "NotFound.__init__" (defArgs s_NotFound___init__) (defBody s_NotFound___init__) (defScope s_NotFound___init__) .none (.ref kD11) dc11 pm11 an11 cd11 ct11), sl11⟩)
    (c11 : PySem.W.codeIn K cd11 "NotFound.__init__" = true)
    (k11 : PySem.W.keepIn K (.ref f11) = true)
    (q11_trail : PySem.W.nsIn K kD11 "trail" = some (some (.ref tq11)))
    (kt11 : K.lookup tq11 = some ⟨.type "tuple", otq11, .seq #[] nt11, stq11⟩)
    (a12 : PySem.W.findIn K (.ref CForms) "holds" = some (some (.ref f12)))
    (fn12 : PySem.W.isFn K (.ref f12) = true)
    (l12 : K.lookup f12 = some ⟨oc12, od12, .func (PySem.W.fnOf "holds" "Forms.holds" (defArgs s_Forms_holds) (defBody s_Forms_holds) (defScope s_Forms_holds) .none kV12 dc12 pm12 an12 cd12 ct12), sl12⟩)
    (c12 : PySem.W.codeIn K cd12 "Forms.holds" = true)
    (k12 : PySem.W.keepIn K (.ref f12) = true)
    (a13 : PySem.W.nsIn K mainGlobals "is_bound" = some (some (.ref f13)))
    (l13 : K.lookup f13 = some ⟨oc13, od13, .func (PySem.W.fnOf "is_bound" "is_bound" (defArgs s_is_bound) (defBody s_is_bound) (defScope s_is_bound) .none kV13 dc13 pm13 an13 cd13 ct13), sl13⟩)
    (c13 : PySem.W.codeIn K cd13 "is_bound" = true)
    (k13 : PySem.W.keepIn K (.ref f13) = true)
    (a14 : PySem.W.nsIn K mainGlobals "is_near" = some (some (.ref f14)))
    (l14 : K.lookup f14 = some ⟨oc14, od14, .func (PySem.W.fnOf "is_near" "is_near" (defArgs s_is_near) (defBody s_is_near) (defScope s_is_near) .none kV14 dc14 pm14 an14 cd14 ct14), sl14⟩)
    (c14 : PySem.W.codeIn K cd14 "is_near" = true)
    (k14 : PySem.W.keepIn K (.ref f14) = true)
    (a15 : PySem.W.nsIn K mainGlobals "is_taken" = some (some (.ref f15)))
    (l15 : K.lookup f15 = some ⟨oc15, od15, .func (PySem.W.fnOf "is_taken" "is_taken" (defArgs s_is_taken) (defBody s_is_taken) (defScope s_is_taken) .none kV15 dc15 pm15 an15 cd15 ct15), sl15⟩)
    (c15 : PySem.W.codeIn K cd15 "is_taken" = true)
    (k15 : PySem.W.keepIn K (.ref f15) = true)
    (a16 : PySem.W.nsIn K mainGlobals "is_number" = some (some (.ref f16)))
    (l16 : K.lookup f16 = some ⟨oc16, od16, .func (PySem.W.fnOf "is_number" "is_number" (defArgs s_is_number) (defBody s_is_number) (defScope s_is_number) .none kV16 dc16 pm16 an16 cd16 ct16), sl16⟩)
    (c16 : PySem.W.codeIn K cd16 "is_number" = true)
    (k16 : PySem.W.keepIn K (.ref f16) = true)
    (a17 : PySem.W.nsIn K mainGlobals "is_sum" = some (some (.ref f17)))
    (l17 : K.lookup f17 = some ⟨oc17, od17, .func (PySem.W.fnOf "is_sum" "is_sum" (defArgs s_is_sum) (defBody s_is_sum) (defScope s_is_sum) .none kV17 dc17 pm17 an17 cd17 ct17), sl17⟩)
    (c17 : PySem.W.codeIn K cd17 "is_sum" = true)
    (k17 : PySem.W.keepIn K (.ref f17) = true)
    (a18 : PySem.W.nsIn K mainGlobals "are_unlike" = some (some (.ref f18)))
    (l18 : K.lookup f18 = some ⟨oc18, od18, .func (PySem.W.fnOf "are_unlike" "are_unlike" (defArgs s_are_unlike) (defBody s_are_unlike) (defScope s_are_unlike) .none kV18 dc18 pm18 an18 cd18 ct18), sl18⟩)
    (c18 : PySem.W.codeIn K cd18 "are_unlike" = true)
    (k18 : PySem.W.keepIn K (.ref f18) = true)
    (a19 : PySem.W.nsIn K mainGlobals "is_row" = some (some (.ref f19)))
    (l19 : K.lookup f19 = some ⟨oc19, od19, .func (PySem.W.fnOf "is_row" "is_row" (defArgs s_is_row) (defBody s_is_row) (defScope s_is_row) .none kV19 dc19 pm19 an19 cd19 ct19), sl19⟩)
    (c19 : PySem.W.codeIn K cd19 "is_row" = true)
    (k19 : PySem.W.keepIn K (.ref f19) = true)
    (a20 : PySem.W.nsIn K mainGlobals "read_rows" = some (some (.ref f20)))
    (l20 : K.lookup f20 = some ⟨oc20, od20, .func (PySem.W.fnOf "read_rows" "read_rows" (defArgs s_read_rows) (defBody s_read_rows) (defScope s_read_rows) .none (.ref kD20) dc20 pm20 an20 cd20 ct20), sl20⟩)
    (c20 : PySem.W.codeIn K cd20 "read_rows" = true)
    (k20 : PySem.W.keepIn K (.ref f20) = true)
    (q20_most : PySem.W.nsIn K kD20 "most" = some (some (.int 12 tq20_most)))
    (a21 : PySem.W.nsIn K mainGlobals "read_body" = some (some (.ref f21)))
    (l21 : K.lookup f21 = some ⟨oc21, od21, .func (PySem.W.fnOf "read_body" "read_body" (defArgs s_read_body) (defBody s_read_body) (defScope s_read_body) .none kV21 dc21 pm21 an21 cd21 ct21), sl21⟩)
    (c21 : PySem.W.codeIn K cd21 "read_body" = true)
    (k21 : PySem.W.keepIn K (.ref f21) = true)
    (a22 : PySem.W.findIn K (.ref CForms) "form" = some (some (.ref f22)))
    (fn22 : PySem.W.isFn K (.ref f22) = true)
    (l22 : K.lookup f22 = some ⟨oc22, od22, .func (PySem.W.fnOf "form" "Forms.form" (defArgs s_Forms_form) (defBody s_Forms_form) (defScope s_Forms_form) .none kV22 dc22 pm22 an22 cd22 ct22), sl22⟩)
    (c22 : PySem.W.codeIn K cd22 "Forms.form" = true)
    (k22 : PySem.W.keepIn K (.ref f22) = true)
    (a23 : PySem.W.findIn K (.ref CForms) "stale" = some (some (.ref f23)))
    (fn23 : PySem.W.isFn K (.ref f23) = true)
    (l23 : K.lookup f23 = some ⟨oc23, od23, .func (PySem.W.fnOf "stale" "Forms.stale" (defArgs s_Forms_stale) (defBody s_Forms_stale) (defScope s_Forms_stale) .none kV23 dc23 pm23 an23 cd23 ct23), sl23⟩)
    (c23 : PySem.W.codeIn K cd23 "Forms.stale" = true)
    (k23 : PySem.W.keepIn K (.ref f23) = true)
    (a24 : PySem.W.findIn K (.ref CForms) "drop" = some (some (.ref f24)))
    (fn24 : PySem.W.isFn K (.ref f24) = true)
    (l24 : K.lookup f24 = some ⟨oc24, od24, .func (PySem.W.fnOf "drop" "Forms.drop" (defArgs s_Forms_drop) (defBody s_Forms_drop) (defScope s_Forms_drop) .none kV24 dc24 pm24 an24 cd24 ct24), sl24⟩)
    (c24 : PySem.W.codeIn K cd24 "Forms.drop" = true)
    (k24 : PySem.W.keepIn K (.ref f24) = true)
    (a25 : PySem.W.nsIn K mainGlobals "_law_older_good" = some (some (.ref f25)))
    (l25 : K.lookup f25 = some ⟨oc25, od25, .func (PySem.W.fnOf "_law_older_good" "_law_older_good" (defArgs s_law_older_good) (defBody s_law_older_good) (defScope s_law_older_good) .none kV25 dc25 pm25 an25 cd25 ct25), sl25⟩)
    (c25 : PySem.W.codeIn K cd25 "_law_older_good" = true)
    (k25 : PySem.W.keepIn K (.ref f25) = true)
    (a26 : PySem.W.nsIn K mainGlobals "_law_mixed" = some (some (.ref f26)))
    (l26 : K.lookup f26 = some ⟨oc26, od26, .func (PySem.W.fnOf "_law_mixed" "_law_mixed" (defArgs s_law_mixed) (defBody s_law_mixed) (defScope s_law_mixed) .none kV26 dc26 pm26 an26 cd26 ct26), sl26⟩)
    (c26 : PySem.W.codeIn K cd26 "_law_mixed" = true)
    (k26 : PySem.W.keepIn K (.ref f26) = true)
    (a27 : PySem.W.nsIn K mainGlobals "_law_cell" = some (some (.ref f27)))
    (l27 : K.lookup f27 = some ⟨oc27, od27, .func (PySem.W.fnOf "_law_cell" "_law_cell" (defArgs s_law_cell) (defBody s_law_cell) (defScope s_law_cell) .none kV27 dc27 pm27 an27 cd27 ct27), sl27⟩)
    (c27 : PySem.W.codeIn K cd27 "_law_cell" = true)
    (k27 : PySem.W.keepIn K (.ref f27) = true)
    (a28 : PySem.W.findIn K (.ref CLists) "forget" = some (some (.ref f28)))
    (fn28 : PySem.W.isFn K (.ref f28) = true)
    (l28 : K.lookup f28 = some ⟨oc28, od28, .func (PySem.W.fnOf "forget" "Lists.forget" (defArgs s_Lists_forget) (defBody s_Lists_forget) (defScope s_Lists_forget) .none kV28 dc28 pm28 an28 cd28 ct28), sl28⟩)
    (c28 : PySem.W.codeIn K cd28 "Lists.forget" = true)
    (k28 : PySem.W.keepIn K (.ref f28) = true)
    (a29 : PySem.W.nsIn K mainGlobals "_law_text_drawn" = some (some (.ref f29)))
    (l29 : K.lookup f29 = some ⟨oc29, od29, .func (PySem.W.fnOf "_law_text_drawn" "_law_text_drawn" (defArgs s_law_text_drawn) (defBody s_law_text_drawn) (defScope s_law_text_drawn) .none kV29 dc29 pm29 an29 cd29 ct29), sl29⟩)
    (c29 : PySem.W.codeIn K cd29 "_law_text_drawn" = true)
    (k29 : PySem.W.keepIn K (.ref f29) = true)
    (a30 : PySem.W.findIn K (.ref CStore) "take" = some (some (.ref f30)))
    (fn30 : PySem.W.isFn K (.ref f30) = true)
    (l30 : K.lookup f30 = some ⟨oc30, od30, .func (PySem.W.fnOf "take" "Store.take" (defArgs s_Store_take) (defBody s_Store_take) (defScope s_Store_take) .none (.ref kD30) dc30 pm30 an30 cd30 ct30), sl30⟩)
    (c30 : PySem.W.codeIn K cd30 "Store.take" = true)
    (k30 : PySem.W.keepIn K (.ref f30) = true)
    (q30_at : PySem.W.nsIn K kD30 "at" = some (some (.int 0 tq30_at)))
    (a31 : PySem.W.nsIn K mainGlobals "_law_deed" = some (some (.ref f31)))
    (l31 : K.lookup f31 = some ⟨oc31, od31, .func (PySem.W.fnOf "_law_deed" "_law_deed" (defArgs s_law_deed) (defBody s_law_deed) (defScope s_law_deed) .none kV31 dc31 pm31 an31 cd31 ct31), sl31⟩)
    (c31 : PySem.W.codeIn K cd31 "_law_deed" = true)
    (k31 : PySem.W.keepIn K (.ref f31) = true)
    (a32 : PySem.W.nsIn K mainGlobals "_law_read" = some (some (.ref f32)))
    (l32 : K.lookup f32 = some ⟨oc32, od32, .func (PySem.W.fnOf "_law_read" "_law_read" (defArgs s_law_read) (defBody s_law_read) (defScope s_law_read) .none kV32 dc32 pm32 an32 cd32 ct32), sl32⟩)
    (c32 : PySem.W.codeIn K cd32 "_law_read" = true)
    (k32 : PySem.W.keepIn K (.ref f32) = true)
    (a33 : PySem.W.findIn K (.ref CStore) "names" = some (some (.ref f33)))
    (fn33 : PySem.W.isFn K (.ref f33) = true)
    (l33 : K.lookup f33 = some ⟨oc33, od33, .func (PySem.W.fnOf "names" "Store.names" (defArgs s_Store_names) (defBody s_Store_names) (defScope s_Store_names) .none kV33 dc33 pm33 an33 cd33 ct33), sl33⟩)
    (c33 : PySem.W.codeIn K cd33 "Store.names" = true)
    (k33 : PySem.W.keepIn K (.ref f33) = true)
    (a34 : PySem.W.findIn K (.ref CLists) "listed" = some (some (.ref f34)))
    (fn34 : PySem.W.isFn K (.ref f34) = true)
    (l34 : K.lookup f34 = some ⟨oc34, od34, .func (PySem.W.fnOf "listed" "Lists.listed" (defArgs s_Lists_listed) (defBody s_Lists_listed) (defScope s_Lists_listed) .none kV34 dc34 pm34 an34 cd34 ct34), sl34⟩)
    (c34 : PySem.W.codeIn K cd34 "Lists.listed" = true)
    (k34 : PySem.W.keepIn K (.ref f34) = true)
    (a35 : PySem.W.nsIn K mainGlobals "_law_formed" = some (some (.ref f35)))
    (l35 : K.lookup f35 = some ⟨oc35, od35, .func (PySem.W.fnOf "_law_formed" "_law_formed" (defArgs s_law_formed) (defBody s_law_formed) (defScope s_law_formed) .none kV35 dc35 pm35 an35 cd35 ct35), sl35⟩)
    (c35 : PySem.W.codeIn K cd35 "_law_formed" = true)
    (k35 : PySem.W.keepIn K (.ref f35) = true)
    (a36 : PySem.W.nsIn K mainGlobals "_law_history_good" = some (some (.ref f36)))
    (l36 : K.lookup f36 = some ⟨oc36, od36, .func (PySem.W.fnOf "_law_history_good" "_law_history_good" (defArgs s_law_history_good) (defBody s_law_history_good) (defScope s_law_history_good) .none kV36 dc36 pm36 an36 cd36 ct36), sl36⟩)
    (c36 : PySem.W.codeIn K cd36 "_law_history_good" = true)
    (k36 : PySem.W.keepIn K (.ref f36) = true)
    (a37 : PySem.W.nsIn K mainGlobals "law" = some (some (.ref f37)))
    (l37 : K.lookup f37 = some ⟨oc37, od37, .func (PySem.W.fnOf "law" "law" (defArgs s_law) (defBody s_law) (defScope s_law) .none kV37 dc37 pm37 an37 cd37 ct37), sl37⟩)
    (c37 : PySem.W.codeIn K cd37 "law" = true)
    (k37 : PySem.W.keepIn K (.ref f37) = true)
    (g_CHECKS : PySem.W.nsIn K mainGlobals "CHECKS" = some (some (.ref ctA_CHECKS)))
    (kt_CHECKS : K.lookup ctA_CHECKS = some ⟨.type "tuple", ctO_CHECKS, .seq #[.str "stamp" ct_CHECKS_0, .str "sum" ct_CHECKS_1] ctN_CHECKS, ctS_CHECKS⟩)
    (xq_NoBody : PySem.W.excInitIn K CNoBody [.type "ValueError", .type "Exception", .type "BaseException", .type "object"] "ValueError.__new__" = true)
    (xo_NoBody : PySem.W.excOver K CNoBody [.type "ValueError", .type "Exception", .type "BaseException", .type "object"] = true)
    (xh_NoBody : PySem.W.hasDictIn K CNoBody = true)
    (xs_NoBody : PySem.W.findIn K (.ref CNoBody) "__setattr__" = some (some (.builtin "object.__setattr__")))
    (xb_NoBody : PySem.W.subIn K (.ref CNoBody) (.type "BaseException") = some true)
    (xt_NoBody : PySem.W.typeIn K (.ref CNoBody) = some (.type "type"))
    (xk_NoBody : PySem.W.keepIn K (.ref CNoBody) = true)
    (xf_NoBody_row : PySem.W.findIn K (.ref CNoBody) "row" = some none)
    (xf_NoBody_trail : PySem.W.findIn K (.ref CNoBody) "trail" = some none)
    (xq_NotFound : PySem.W.excInitIn K CNotFound [.type "LookupError", .type "Exception", .type "BaseException", .type "object"] "LookupError.__new__" = true)
    (xo_NotFound : PySem.W.excOver K CNotFound [.type "LookupError", .type "Exception", .type "BaseException", .type "object"] = true)
    (xh_NotFound : PySem.W.hasDictIn K CNotFound = true)
    (xs_NotFound : PySem.W.findIn K (.ref CNotFound) "__setattr__" = some (some (.builtin "object.__setattr__")))
    (xb_NotFound : PySem.W.subIn K (.ref CNotFound) (.type "BaseException") = some true)
    (xt_NotFound : PySem.W.typeIn K (.ref CNotFound) = some (.type "type"))
    (xk_NotFound : PySem.W.keepIn K (.ref CNotFound) = true)
    (xf_NotFound_name : PySem.W.findIn K (.ref CNotFound) "name" = some none)
    (xf_NotFound_trail : PySem.W.findIn K (.ref CNotFound) "trail" = some none)
    (z_isinstance : PySem.W.nsIn K mainGlobals "isinstance" = some none)
    (z_str : PySem.W.nsIn K mainGlobals "str" = some none)
    (z_len : PySem.W.nsIn K mainGlobals "len" = some none)
    (z_all : PySem.W.nsIn K mainGlobals "all" = some none)
    (z_tuple : PySem.W.nsIn K mainGlobals "tuple" = some none)
    (z_enumerate : PySem.W.nsIn K mainGlobals "enumerate" = some none)
    (z_list : PySem.W.nsIn K mainGlobals "list" = some none)
    (z_sorted : PySem.W.nsIn K mainGlobals "sorted" = some none)
    (z_range : PySem.W.nsIn K mainGlobals "range" = some none)
    (z_int : PySem.W.nsIn K mainGlobals "int" = some none)
    (z_max : PySem.W.nsIn K mainGlobals "max" = some none)
    (z_LookupError : PySem.W.nsIn K mainGlobals "LookupError" = some none)
    (z_ValueError : PySem.W.nsIn K mainGlobals "ValueError" = some none)
    (c_LONGEST : PySem.W.nsIn K mainGlobals "LONGEST" = some (some (.int 8 tk_LONGEST)))
    (c_SMALL : PySem.W.nsIn K mainGlobals "SMALL" = some (some (.str "abcdefghijklmnopqrstuvwxyz" tk_SMALL)))
    (c_MOST_PARTS : PySem.W.nsIn K mainGlobals "MOST_PARTS" = some (some (.int 4 tk_MOST_PARTS)))
    (c_MOST_FIGURES : PySem.W.nsIn K mainGlobals "MOST_FIGURES" = some (some (.int 9 tk_MOST_FIGURES)))
    (c_FIGURES : PySem.W.nsIn K mainGlobals "FIGURES" = some (some (.str "0123456789" tk_FIGURES)))
    (c_MOST_TERMS : PySem.W.nsIn K mainGlobals "MOST_TERMS" = some (some (.int 8 tk_MOST_TERMS)))
    (t_NoBody : PySem.W.typeIn K (.ref CNoBody) = some (.type "type"))
    (i_NoBody : PySem.W.isClsIn K CNoBody = true)
    (b_NoBody : PySem.W.subIn K (.ref CNoBody) (.type "BaseException") = some true)
    (t_NotFound : PySem.W.typeIn K (.ref CNotFound) = some (.type "type"))
    (i_NotFound : PySem.W.isClsIn K CNotFound = true)
    (b_NotFound : PySem.W.subIn K (.ref CNotFound) (.type "BaseException") = some true)
    (t_NoLine : PySem.W.typeIn K (.ref CNoLine) = some (.type "type"))
    (b_NoLine : PySem.W.subIn K (.ref CNoLine) (.type "BaseException") = some true)
    (k_NoLine : PySem.W.keepIn K (.ref CNoLine) = true)
    (x_NoLine : PySem.W.excIn K CNoLine [.type "ValueError", .type "Exception", .type "BaseException", .type "object"] "ValueError.__new__" = true)
    (h_NoBody : PySem.W.hasDictIn K CNoBody = true)
    (s_NoBody : PySem.W.subIn K (.ref CNoBody) (.ref CNoBody) = some true)
    (ga_NoBody : PySem.W.findIn K (.ref CNoBody) "__getattribute__" = some (some (.builtin "BaseException.__getattribute__")))
    (gg_NoBody : PySem.W.findIn K (.ref CNoBody) "__getattr__" = some none)
    (gc_NoBody : PySem.W.findIn K (.ref CNoBody) "__class__" = some (some (.builtin "object.__class__")))
    (mo_NoBody : PySem.W.mroIn K CNoBody (.type "object") = some true)
    (nf_NoBody_row : PySem.W.findIn K (.ref CNoBody) "row" = some none)
    (nf_NoBody_trail : PySem.W.findIn K (.ref CNoBody) "trail" = some none)
    (n_NoBody_NotFound : PySem.W.subIn K (.ref CNoBody) (.ref CNotFound) = some false)
    (h_NotFound : PySem.W.hasDictIn K CNotFound = true)
    (s_NotFound : PySem.W.subIn K (.ref CNotFound) (.ref CNotFound) = some true)
    (ga_NotFound : PySem.W.findIn K (.ref CNotFound) "__getattribute__" = some (some (.builtin "BaseException.__getattribute__")))
    (gg_NotFound : PySem.W.findIn K (.ref CNotFound) "__getattr__" = some none)
    (gc_NotFound : PySem.W.findIn K (.ref CNotFound) "__class__" = some (some (.builtin "object.__class__")))
    (mo_NotFound : PySem.W.mroIn K CNotFound (.type "object") = some true)
    (nf_NotFound_name : PySem.W.findIn K (.ref CNotFound) "name" = some none)
    (nf_NotFound_trail : PySem.W.findIn K (.ref CNotFound) "trail" = some none)
    (n_NotFound_NoBody : PySem.W.subIn K (.ref CNotFound) (.ref CNoBody) = some false)
    (oc_n : PySem.W.specialIn K (.builtin "object.__class__") "__get__" = some (some (.builtin "getset_descriptor.__get__")))
    (oc_t : PySem.W.takesIn K (.builtin "object.__class__") = some true) :
    ∃ fd : FuncData, (∀ (s : Shared) (v : Value), BindsTo s fd ⟨[v], []⟩ [("_law_script", v)]) ∧ ∀ base : Heap, K.In base → base.Ns mainGlobals mg → FnOk l.prog w K mg base (L2.CX l.prog w) 11 fa fd ["_law_script"] (spLaw K) := by
  have e := hfa.symm.trans (PySem.W.mg_of X G a37)
  cases e
  have T : Glb ⟨K, fun i => [0, 0, 0, 0, CNoLine, CNoBody, CNotFound, 0, 0, 0, 0, 0, 0, 0, CStore, CLists, CForms, 0, 0, 0, 0, 0, 0, 0, 0, 0, 0, 0, 0, 0, 0, 0, 0, 0, 0, 0, 0, tq8, tq11, 0, 0, 0, 0, 0, 0, 0, 0, 0, 0, 0, 0, 0, 0, 0, 0, 0, 0, 0, 0, 0, 0, 0, 0, 0, ctA_CHECKS].getD i 0⟩ mg := { tab := tabOf_ok (List.forall_mem_cons.mpr ⟨exC_mk i_NoBody ga_NoBody gg_NoBody b_NoBody h_NoBody gc_NoBody oc_n oc_t mo_NoBody, (List.forall_mem_cons.mpr ⟨exC_mk i_NotFound ga_NotFound gg_NotFound b_NotFound h_NotFound gc_NotFound oc_n oc_t mo_NotFound, (fun _ h => nomatch h)⟩)⟩) (fun _ h => nomatch h) (fun _ h => nomatch h), g_NoLine := PySem.W.mg_of X G g_NoLine, g_NoBody := PySem.W.mg_of X G g_NoBody, g_NotFound := PySem.W.mg_of X G g_NotFound, g_Store := PySem.W.mg_of X G g_Store, g_Lists := PySem.W.mg_of X G g_Lists, g_Forms := PySem.W.mg_of X G g_Forms, q_NoBody := ⟨_, _, _, kt8, rfl, rfl, (by decide), .nil⟩, q_NotFound := ⟨_, _, _, kt11, rfl, rfl, (by decide), .nil⟩, g_CHECKS := PySem.W.mg_of X G g_CHECKS, kt_CHECKS := ⟨_, _, _, kt_CHECKS, rfl, rfl, (show 2 ≤ sizeLine by decide), (.cons ⟨_, rfl⟩ (.cons ⟨_, rfl⟩ .nil))⟩, z_isinstance := PySem.W.mg_none_of X G z_isinstance, z_str := PySem.W.mg_none_of X G z_str, z_len := PySem.W.mg_none_of X G z_len, z_all := PySem.W.mg_none_of X G z_all, z_tuple := PySem.W.mg_none_of X G z_tuple, z_enumerate := PySem.W.mg_none_of X G z_enumerate, z_list := PySem.W.mg_none_of X G z_list, z_sorted := PySem.W.mg_none_of X G z_sorted, z_range := PySem.W.mg_none_of X G z_range, z_int := PySem.W.mg_none_of X G z_int, z_max := PySem.W.mg_none_of X G z_max, z_LookupError := PySem.W.mg_none_of X G z_LookupError, z_ValueError := PySem.W.mg_none_of X G z_ValueError, c_LONGEST := ⟨_, PySem.W.mg_of X G c_LONGEST, ⟨_, rfl⟩⟩, c_SMALL := ⟨_, PySem.W.mg_of X G c_SMALL, ⟨_, rfl⟩⟩, c_MOST_PARTS := ⟨_, PySem.W.mg_of X G c_MOST_PARTS, ⟨_, rfl⟩⟩, c_MOST_FIGURES := ⟨_, PySem.W.mg_of X G c_MOST_FIGURES, ⟨_, rfl⟩⟩, c_FIGURES := ⟨_, PySem.W.mg_of X G c_FIGURES, ⟨_, rfl⟩⟩, c_MOST_TERMS := ⟨_, PySem.W.mg_of X G c_MOST_TERMS, ⟨_, rfl⟩⟩, x_NoLine := x_NoLine, k_NoLine := k_NoLine, b_NoLine := b_NoLine, t_NoLine := t_NoLine, e_NoBody := exm_self b_NoBody h_NoBody t_NoBody s_NoBody, p_NoBody_NotFound := PySem.W.exm_ref b_NotFound h_NotFound t_NotFound n_NoBody_NotFound, e_NotFound := exm_self b_NotFound h_NotFound t_NotFound s_NotFound, p_NotFound_NoBody := PySem.W.exm_ref b_NoBody h_NoBody t_NoBody n_NotFound_NoBody, ni := fldT_ok (List.forall_mem_cons.mpr ⟨⟨⟨pg_Store, hd_Store, po_Store, sa_Store⟩, na_Store_name⟩, (List.forall_mem_cons.mpr ⟨⟨⟨pg_Store, hd_Store, po_Store, sa_Store⟩, na_Store_bodies⟩, (List.forall_mem_cons.mpr ⟨⟨⟨pg_Store, hd_Store, po_Store, sa_Store⟩, na_Store_changed⟩, (List.forall_mem_cons.mpr ⟨⟨⟨pg_Lists, hd_Lists, po_Lists, sa_Lists⟩, na_Lists_known⟩, (List.forall_mem_cons.mpr ⟨⟨⟨pg_Forms, hd_Forms, po_Forms, sa_Forms⟩, na_Forms_check⟩, (List.forall_mem_cons.mpr ⟨⟨⟨pg_Forms, hd_Forms, po_Forms, sa_Forms⟩, na_Forms_read⟩, (List.forall_mem_cons.mpr ⟨⟨⟨pg_Forms, hd_Forms, po_Forms, sa_Forms⟩, na_Forms_made⟩, (List.forall_mem_cons.mpr ⟨⟨⟨pg_Forms, hd_Forms, po_Forms, sa_Forms⟩, na_Forms_kept⟩, (fun _ h => nomatch h)⟩)⟩)⟩)⟩)⟩)⟩)⟩)⟩), nx := fldX_ok (List.forall_mem_cons.mpr ⟨⟨exC_mk i_NoBody ga_NoBody gg_NoBody b_NoBody h_NoBody gc_NoBody oc_n oc_t mo_NoBody, nf_NoBody_row⟩, (List.forall_mem_cons.mpr ⟨⟨exC_mk i_NoBody ga_NoBody gg_NoBody b_NoBody h_NoBody gc_NoBody oc_n oc_t mo_NoBody, nf_NoBody_trail⟩, (List.forall_mem_cons.mpr ⟨⟨exC_mk i_NotFound ga_NotFound gg_NotFound b_NotFound h_NotFound gc_NotFound oc_n oc_t mo_NotFound, nf_NotFound_name⟩, (List.forall_mem_cons.mpr ⟨⟨exC_mk i_NotFound ga_NotFound gg_NotFound b_NotFound h_NotFound gc_NotFound oc_n oc_t mo_NotFound, nf_NotFound_trail⟩, (fun _ h => nomatch h)⟩)⟩)⟩)⟩) }
  have F0 := funN_of (fun_mk (st := s_law_take) l0 c0 k0)
  have F1 := funN_of (fun_mk (st := s_is_part) l1 c1 k1)
  have F2 := funN_of (fun_mk (st := s_is_name) l2 c2 k2)
  have F3 := funN_of (fun_mk (st := s_look_at_name) l3 c3 k3)
  have F4 := funN_of (fun_mk (st := s_look_at_check) l4 c4 k4)
  have F5 := funN_mk (st := s_Forms___init__) (kws := [("check", .str "stamp")]) l5 c5 k5 (List.forall_mem_cons.mpr ⟨⟨_, q5_check, ⟨_, rfl⟩⟩, (fun _ h => nomatch h)⟩)
  have F6 := funN_of (fun_mk (st := s_Store___init__) l6 c6 k6)
  have F7 := funN_of (fun_mk (st := s_Lists___init__) l7 c7 k7)
  have F8 := funN_mk (st := s_NoBody___init__) (kws := [("trail", .ref tq8)]) l8 c8 k8 (List.forall_mem_cons.mpr ⟨⟨_, q8_trail, rfl⟩, (fun _ h => nomatch h)⟩)
  have F9 := funN_mk (st := s_Store_put) (kws := [("pack", .bl false), ("at", .int 0)]) l9 c9 k9 (List.forall_mem_cons.mpr ⟨⟨_, q9_pack, rfl⟩, (List.forall_mem_cons.mpr ⟨⟨_, q9_at, ⟨_, rfl⟩⟩, (fun _ h => nomatch h)⟩)⟩)
  have F10 := funN_of (fun_mk (st := s_Store_entry) l10 c10 k10)
  have F11 := funN_mk (st := s_NotFound___init__) (kws := [("trail", .ref tq11)]) l11 c11 k11 (List.forall_mem_cons.mpr ⟨⟨_, q11_trail, rfl⟩, (fun _ h => nomatch h)⟩)
  have F12 := funN_of (fun_mk (st := s_Forms_holds) l12 c12 k12)
  have F13 := funN_of (fun_mk (st := s_is_bound) l13 c13 k13)
  have F14 := funN_of (fun_mk (st := s_is_near) l14 c14 k14)
  have F15 := funN_of (fun_mk (st := s_is_taken) l15 c15 k15)
  have F16 := funN_of (fun_mk (st := s_is_number) l16 c16 k16)
  have F17 := funN_of (fun_mk (st := s_is_sum) l17 c17 k17)
  have F18 := funN_of (fun_mk (st := s_are_unlike) l18 c18 k18)
  have F19 := funN_of (fun_mk (st := s_is_row) l19 c19 k19)
  have F20 := funN_mk (st := s_read_rows) (kws := [("most", .int 12)]) l20 c20 k20 (List.forall_mem_cons.mpr ⟨⟨_, q20_most, ⟨_, rfl⟩⟩, (fun _ h => nomatch h)⟩)
  have F21 := funN_of (fun_mk (st := s_read_body) l21 c21 k21)
  have F22 := funN_of (fun_mk (st := s_Forms_form) l22 c22 k22)
  have F23 := funN_of (fun_mk (st := s_Forms_stale) l23 c23 k23)
  have F24 := funN_of (fun_mk (st := s_Forms_drop) l24 c24 k24)
  have F25 := funN_of (fun_mk (st := s_law_older_good) l25 c25 k25)
  have F26 := funN_of (fun_mk (st := s_law_mixed) l26 c26 k26)
  have F27 := funN_of (fun_mk (st := s_law_cell) l27 c27 k27)
  have F28 := funN_of (fun_mk (st := s_Lists_forget) l28 c28 k28)
  have F29 := funN_of (fun_mk (st := s_law_text_drawn) l29 c29 k29)
  have F30 := funN_mk (st := s_Store_take) (kws := [("at", .int 0)]) l30 c30 k30 (List.forall_mem_cons.mpr ⟨⟨_, q30_at, ⟨_, rfl⟩⟩, (fun _ h => nomatch h)⟩)
  have F31 := funN_of (fun_mk (st := s_law_deed) l31 c31 k31)
  have F32 := funN_of (fun_mk (st := s_law_read) l32 c32 k32)
  have F33 := funN_of (fun_mk (st := s_Store_names) l33 c33 k33)
  have F34 := funN_of (fun_mk (st := s_Lists_listed) l34 c34 k34)
  have F35 := funN_of (fun_mk (st := s_law_formed) l35 c35 k35)
  have F36 := funN_of (fun_mk (st := s_law_history_good) l36 c36 k36)
  have F37 := funN_of (fun_mk (st := s_law) l37 c37 k37)
  refine ⟨_, fun s v => BindsTo.of_eq (fd := PySem.W.fnOf "law" "law" (defArgs s_law) (defBody s_law) (defScope s_law) .none kV37 dc37 pm37 an37 cd37 ct37) rfl, fun base _ _ => ?_⟩
  have D_law_take : DefM l.prog w K mg base "_law_take" s_law_take 1 ["_law_pile", "_law_size"] [] (FM ⟨K, fun i => [0, 0, 0, 0, CNoLine, CNoBody, CNotFound, 0, 0, 0, 0, 0, 0, 0, CStore, CLists, CForms, 0, 0, 0, 0, 0, 0, 0, 0, 0, 0, 0, 0, 0, 0, 0, 0, 0, 0, 0, 0, tq8, tq11, 0, 0, 0, 0, 0, 0, 0, 0, 0, 0, 0, 0, 0, 0, 0, 0, 0, 0, 0, 0, 0, 0, 0, 0, 0, ctA_CHECKS].getD i 0⟩ m_law_take) := ⟨⟨_, _, F0, ok_law_take F0 T , PySem.W.mg_of X G a0⟩⟩
  have D_is_part : DefM l.prog w K mg base "is_part" s_is_part 1 ["thing"] [] (FM ⟨K, fun i => [0, 0, 0, 0, CNoLine, CNoBody, CNotFound, 0, 0, 0, 0, 0, 0, 0, CStore, CLists, CForms, 0, 0, 0, 0, 0, 0, 0, 0, 0, 0, 0, 0, 0, 0, 0, 0, 0, 0, 0, 0, tq8, tq11, 0, 0, 0, 0, 0, 0, 0, 0, 0, 0, 0, 0, 0, 0, 0, 0, 0, 0, 0, 0, 0, 0, 0, 0, 0, ctA_CHECKS].getD i 0⟩ m_is_part) := ⟨⟨_, _, F1, ok_is_part F1 T , PySem.W.mg_of X G a1⟩⟩
  have D_is_name : DefM l.prog w K mg base "is_name" s_is_name 2 ["thing"] [] (FM ⟨K, fun i => [0, 0, 0, 0, CNoLine, CNoBody, CNotFound, 0, 0, 0, 0, 0, 0, 0, CStore, CLists, CForms, 0, 0, 0, 0, 0, 0, 0, 0, 0, 0, 0, 0, 0, 0, 0, 0, 0, 0, 0, 0, tq8, tq11, 0, 0, 0, 0, 0, 0, 0, 0, 0, 0, 0, 0, 0, 0, 0, 0, 0, 0, 0, 0, 0, 0, 0, 0, 0, ctA_CHECKS].getD i 0⟩ m_is_name) := ⟨⟨_, _, F2, ok_is_name F2 T D_is_part, PySem.W.mg_of X G a2⟩⟩
  have D_look_at_name : DefM l.prog w K mg base "look_at_name" s_look_at_name 3 ["thing"] [] (FM ⟨K, fun i => [0, 0, 0, 0, CNoLine, CNoBody, CNotFound, 0, 0, 0, 0, 0, 0, 0, CStore, CLists, CForms, 0, 0, 0, 0, 0, 0, 0, 0, 0, 0, 0, 0, 0, 0, 0, 0, 0, 0, 0, 0, tq8, tq11, 0, 0, 0, 0, 0, 0, 0, 0, 0, 0, 0, 0, 0, 0, 0, 0, 0, 0, 0, 0, 0, 0, 0, 0, 0, ctA_CHECKS].getD i 0⟩ m_look_at_name) := ⟨⟨_, _, F3, ok_look_at_name F3 T D_is_name, PySem.W.mg_of X G a3⟩⟩
  have D_look_at_check : DefM l.prog w K mg base "look_at_check" s_look_at_check 1 ["thing"] [] (FM ⟨K, fun i => [0, 0, 0, 0, CNoLine, CNoBody, CNotFound, 0, 0, 0, 0, 0, 0, 0, CStore, CLists, CForms, 0, 0, 0, 0, 0, 0, 0, 0, 0, 0, 0, 0, 0, 0, 0, 0, 0, 0, 0, 0, tq8, tq11, 0, 0, 0, 0, 0, 0, 0, 0, 0, 0, 0, 0, 0, 0, 0, 0, 0, 0, 0, 0, 0, 0, 0, 0, 0, ctA_CHECKS].getD i 0⟩ m_look_at_check) := ⟨⟨_, _, F4, ok_look_at_check F4 T , PySem.W.mg_of X G a4⟩⟩
  have D_Forms___init__ : DefI l.prog w K mg base CForms "Forms.__init__" s_Forms___init__ 2 ["self", "check"] [("check", .str "stamp")] (FM ⟨K, fun i => [0, 0, 0, 0, CNoLine, CNoBody, CNotFound, 0, 0, 0, 0, 0, 0, 0, CStore, CLists, CForms, 0, 0, 0, 0, 0, 0, 0, 0, 0, 0, 0, 0, 0, 0, 0, 0, 0, 0, 0, 0, tq8, tq11, 0, 0, 0, 0, 0, 0, 0, 0, 0, 0, 0, 0, 0, 0, 0, 0, 0, 0, 0, 0, 0, 0, 0, 0, 0, ctA_CHECKS].getD i 0⟩ m_Forms___init__) := ⟨⟨_, _, F5, ok_Forms___init__ F5 T D_look_at_check, ⟨mk_Forms, a5, fn5, kp_Forms⟩⟩⟩
  have D_Store___init__ : DefI l.prog w K mg base CStore "Store.__init__" s_Store___init__ 2 ["self", "name"] [] (FM ⟨K, fun i => [0, 0, 0, 0, CNoLine, CNoBody, CNotFound, 0, 0, 0, 0, 0, 0, 0, CStore, CLists, CForms, 0, 0, 0, 0, 0, 0, 0, 0, 0, 0, 0, 0, 0, 0, 0, 0, 0, 0, 0, 0, tq8, tq11, 0, 0, 0, 0, 0, 0, 0, 0, 0, 0, 0, 0, 0, 0, 0, 0, 0, 0, 0, 0, 0, 0, 0, 0, 0, ctA_CHECKS].getD i 0⟩ m_Store___init__) := ⟨⟨_, _, F6, ok_Store___init__ F6 T D_is_part, ⟨mk_Store, a6, fn6, kp_Store⟩⟩⟩
  have D_Lists___init__ : DefI l.prog w K mg base CLists "Lists.__init__" s_Lists___init__ 1 ["self"] [] (FM ⟨K, fun i => [0, 0, 0, 0, CNoLine, CNoBody, CNotFound, 0, 0, 0, 0, 0, 0, 0, CStore, CLists, CForms, 0, 0, 0, 0, 0, 0, 0, 0, 0, 0, 0, 0, 0, 0, 0, 0, 0, 0, 0, 0, tq8, tq11, 0, 0, 0, 0, 0, 0, 0, 0, 0, 0, 0, 0, 0, 0, 0, 0, 0, 0, 0, 0, 0, 0, 0, 0, 0, ctA_CHECKS].getD i 0⟩ m_Lists___init__) := ⟨⟨_, _, F7, ok_Lists___init__ F7 T , ⟨mk_Lists, a7, fn7, kp_Lists⟩⟩⟩
  have D_NoBody___init__ : DefX l.prog w K mg base CNoBody "NoBody.__init__" s_NoBody___init__ 4 ["self", "row", "trail"] [("trail", .ref tq8)] ["trail", "row"] bsV := ⟨⟨_, _, F8, ok_NoBody___init__ F8 T ⟨basV, xq_NoBody, xo_NoBody, xh_NoBody, xs_NoBody, xb_NoBody, xt_NoBody, xk_NoBody⟩ (List.forall_mem_cons.mpr ⟨xf_NoBody_row, (List.forall_mem_cons.mpr ⟨xf_NoBody_trail, (fun _ h => nomatch h)⟩)⟩), ⟨basV, xq_NoBody, xo_NoBody, xh_NoBody, xs_NoBody, xb_NoBody, xt_NoBody, xk_NoBody⟩, a8, y8⟩⟩
  have D_Store_put : DefN l.prog w K mg base CStore "put" "Store.put" s_Store_put 6 ["self", "name", "text", "pack", "at"] [("pack", .bl false), ("at", .int 0)] (FM ⟨K, fun i => [0, 0, 0, 0, CNoLine, CNoBody, CNotFound, 0, 0, 0, 0, 0, 0, 0, CStore, CLists, CForms, 0, 0, 0, 0, 0, 0, 0, 0, 0, 0, 0, 0, 0, 0, 0, 0, 0, 0, 0, 0, tq8, tq11, 0, 0, 0, 0, 0, 0, 0, 0, 0, 0, 0, 0, 0, 0, 0, 0, 0, 0, 0, 0, 0, 0, 0, 0, 0, ctA_CHECKS].getD i 0⟩ m_Store_put) := ⟨⟨_, _, F9, ok_Store_put F9 T D_look_at_name D_NoBody___init__, ⟨pg_Store, hd_Store, po_Store, sa_Store⟩, ⟨a9, fn9, k9⟩⟩⟩
  have D_Store_entry : DefN l.prog w K mg base CStore "entry" "Store.entry" s_Store_entry 4 ["self", "name"] [] (FM ⟨K, fun i => [0, 0, 0, 0, CNoLine, CNoBody, CNotFound, 0, 0, 0, 0, 0, 0, 0, CStore, CLists, CForms, 0, 0, 0, 0, 0, 0, 0, 0, 0, 0, 0, 0, 0, 0, 0, 0, 0, 0, 0, 0, tq8, tq11, 0, 0, 0, 0, 0, 0, 0, 0, 0, 0, 0, 0, 0, 0, 0, 0, 0, 0, 0, 0, 0, 0, 0, 0, 0, ctA_CHECKS].getD i 0⟩ m_Store_entry) := ⟨⟨_, _, F10, ok_Store_entry F10 T D_look_at_name, ⟨pg_Store, hd_Store, po_Store, sa_Store⟩, ⟨a10, fn10, k10⟩⟩⟩
  have D_NotFound___init__ : DefX l.prog w K mg base CNotFound "NotFound.__init__" s_NotFound___init__ 4 ["self", "name", "trail"] [("trail", .ref tq11)] ["trail", "name"] bsL := ⟨⟨_, _, F11, ok_NotFound___init__ F11 T ⟨basL, xq_NotFound, xo_NotFound, xh_NotFound, xs_NotFound, xb_NotFound, xt_NotFound, xk_NotFound⟩ (List.forall_mem_cons.mpr ⟨xf_NotFound_name, (List.forall_mem_cons.mpr ⟨xf_NotFound_trail, (fun _ h => nomatch h)⟩)⟩), ⟨basL, xq_NotFound, xo_NotFound, xh_NotFound, xs_NotFound, xb_NotFound, xt_NotFound, xk_NotFound⟩, a11, y11⟩⟩
  have D_Forms_holds : DefN l.prog w K mg base CForms "holds" "Forms.holds" s_Forms_holds 5 ["self", "store", "name"] [] (FM ⟨K, fun i => [0, 0, 0, 0, CNoLine, CNoBody, CNotFound, 0, 0, 0, 0, 0, 0, 0, CStore, CLists, CForms, 0, 0, 0, 0, 0, 0, 0, 0, 0, 0, 0, 0, 0, 0, 0, 0, 0, 0, 0, 0, tq8, tq11, 0, 0, 0, 0, 0, 0, 0, 0, 0, 0, 0, 0, 0, 0, 0, 0, 0, 0, 0, 0, 0, 0, 0, 0, 0, ctA_CHECKS].getD i 0⟩ m_Forms_holds) := ⟨⟨_, _, F12, ok_Forms_holds F12 T D_Store_entry, ⟨pg_Forms, hd_Forms, po_Forms, sa_Forms⟩, ⟨a12, fn12, k12⟩⟩⟩
  have D_is_bound : DefM l.prog w K mg base "is_bound" s_is_bound 3 ["words"] [] (FM ⟨K, fun i => [0, 0, 0, 0, CNoLine, CNoBody, CNotFound, 0, 0, 0, 0, 0, 0, 0, CStore, CLists, CForms, 0, 0, 0, 0, 0, 0, 0, 0, 0, 0, 0, 0, 0, 0, 0, 0, 0, 0, 0, 0, tq8, tq11, 0, 0, 0, 0, 0, 0, 0, 0, 0, 0, 0, 0, 0, 0, 0, 0, 0, 0, 0, 0, 0, 0, 0, 0, 0, ctA_CHECKS].getD i 0⟩ m_is_bound) := ⟨⟨_, _, F13, ok_is_bound F13 T D_is_name D_is_part, PySem.W.mg_of X G a13⟩⟩
  have D_is_near : DefM l.prog w K mg base "is_near" s_is_near 3 ["thing"] [] (FM ⟨K, fun i => [0, 0, 0, 0, CNoLine, CNoBody, CNotFound, 0, 0, 0, 0, 0, 0, 0, CStore, CLists, CForms, 0, 0, 0, 0, 0, 0, 0, 0, 0, 0, 0, 0, 0, 0, 0, 0, 0, 0, 0, 0, tq8, tq11, 0, 0, 0, 0, 0, 0, 0, 0, 0, 0, 0, 0, 0, 0, 0, 0, 0, 0, 0, 0, 0, 0, 0, 0, 0, ctA_CHECKS].getD i 0⟩ m_is_near) := ⟨⟨_, _, F14, ok_is_near F14 T D_is_name, PySem.W.mg_of X G a14⟩⟩
  have D_is_taken : DefM l.prog w K mg base "is_taken" s_is_taken 4 ["words"] [] (FM ⟨K, fun i => [0, 0, 0, 0, CNoLine, CNoBody, CNotFound, 0, 0, 0, 0, 0, 0, 0, CStore, CLists, CForms, 0, 0, 0, 0, 0, 0, 0, 0, 0, 0, 0, 0, 0, 0, 0, 0, 0, 0, 0, 0, tq8, tq11, 0, 0, 0, 0, 0, 0, 0, 0, 0, 0, 0, 0, 0, 0, 0, 0, 0, 0, 0, 0, 0, 0, 0, 0, 0, ctA_CHECKS].getD i 0⟩ m_is_taken) := ⟨⟨_, _, F15, ok_is_taken F15 T D_is_part D_is_near, PySem.W.mg_of X G a15⟩⟩
  have D_is_number : DefM l.prog w K mg base "is_number" s_is_number 1 ["word"] [] (FM ⟨K, fun i => [0, 0, 0, 0, CNoLine, CNoBody, CNotFound, 0, 0, 0, 0, 0, 0, 0, CStore, CLists, CForms, 0, 0, 0, 0, 0, 0, 0, 0, 0, 0, 0, 0, 0, 0, 0, 0, 0, 0, 0, 0, tq8, tq11, 0, 0, 0, 0, 0, 0, 0, 0, 0, 0, 0, 0, 0, 0, 0, 0, 0, 0, 0, 0, 0, 0, 0, 0, 0, ctA_CHECKS].getD i 0⟩ m_is_number) := ⟨⟨_, _, F16, ok_is_number F16 T , PySem.W.mg_of X G a16⟩⟩
  have D_is_sum : DefM l.prog w K mg base "is_sum" s_is_sum 3 ["word"] [] (FM ⟨K, fun i => [0, 0, 0, 0, CNoLine, CNoBody, CNotFound, 0, 0, 0, 0, 0, 0, 0, CStore, CLists, CForms, 0, 0, 0, 0, 0, 0, 0, 0, 0, 0, 0, 0, 0, 0, 0, 0, 0, 0, 0, 0, tq8, tq11, 0, 0, 0, 0, 0, 0, 0, 0, 0, 0, 0, 0, 0, 0, 0, 0, 0, 0, 0, 0, 0, 0, 0, 0, 0, ctA_CHECKS].getD i 0⟩ m_is_sum) := ⟨⟨_, _, F17, ok_is_sum F17 T D_is_number D_is_name, PySem.W.mg_of X G a17⟩⟩
  have D_are_unlike : DefM l.prog w K mg base "are_unlike" s_are_unlike 1 ["words"] [] (FM ⟨K, fun i => [0, 0, 0, 0, CNoLine, CNoBody, CNotFound, 0, 0, 0, 0, 0, 0, 0, CStore, CLists, CForms, 0, 0, 0, 0, 0, 0, 0, 0, 0, 0, 0, 0, 0, 0, 0, 0, 0, 0, 0, 0, tq8, tq11, 0, 0, 0, 0, 0, 0, 0, 0, 0, 0, 0, 0, 0, 0, 0, 0, 0, 0, 0, 0, 0, 0, 0, 0, 0, ctA_CHECKS].getD i 0⟩ m_are_unlike) := ⟨⟨_, _, F18, ok_are_unlike F18 T , PySem.W.mg_of X G a18⟩⟩
  have D_is_row : DefM l.prog w K mg base "is_row" s_is_row 5 ["words"] [] (FM ⟨K, fun i => [0, 0, 0, 0, CNoLine, CNoBody, CNotFound, 0, 0, 0, 0, 0, 0, 0, CStore, CLists, CForms, 0, 0, 0, 0, 0, 0, 0, 0, 0, 0, 0, 0, 0, 0, 0, 0, 0, 0, 0, 0, tq8, tq11, 0, 0, 0, 0, 0, 0, 0, 0, 0, 0, 0, 0, 0, 0, 0, 0, 0, 0, 0, 0, 0, 0, 0, 0, 0, ctA_CHECKS].getD i 0⟩ m_is_row) := ⟨⟨_, _, F19, ok_is_row F19 T D_is_bound D_is_taken D_is_part D_is_sum D_are_unlike D_is_name, PySem.W.mg_of X G a19⟩⟩
  have D_read_rows : DefM l.prog w K mg base "read_rows" s_read_rows 6 ["text", "most"] [("most", .int 12)] (FM ⟨K, fun i => [0, 0, 0, 0, CNoLine, CNoBody, CNotFound, 0, 0, 0, 0, 0, 0, 0, CStore, CLists, CForms, 0, 0, 0, 0, 0, 0, 0, 0, 0, 0, 0, 0, 0, 0, 0, 0, 0, 0, 0, 0, tq8, tq11, 0, 0, 0, 0, 0, 0, 0, 0, 0, 0, 0, 0, 0, 0, 0, 0, 0, 0, 0, 0, 0, 0, 0, 0, 0, ctA_CHECKS].getD i 0⟩ m_read_rows) := ⟨⟨_, _, F20, ok_read_rows F20 T D_NoBody___init__ D_is_row, PySem.W.mg_of X G a20⟩⟩
  have D_read_body : DefM l.prog w K mg base "read_body" s_read_body 7 ["text"] [] (FM ⟨K, fun i => [0, 0, 0, 0, CNoLine, CNoBody, CNotFound, 0, 0, 0, 0, 0, 0, 0, CStore, CLists, CForms, 0, 0, 0, 0, 0, 0, 0, 0, 0, 0, 0, 0, 0, 0, 0, 0, 0, 0, 0, 0, tq8, tq11, 0, 0, 0, 0, 0, 0, 0, 0, 0, 0, 0, 0, 0, 0, 0, 0, 0, 0, 0, 0, 0, 0, 0, 0, 0, ctA_CHECKS].getD i 0⟩ m_read_body) := ⟨⟨_, _, F21, ok_read_body F21 T D_read_rows, PySem.W.mg_of X G a21⟩⟩
  have D_Forms_form : DefN l.prog w K mg base CForms "form" "Forms.form" s_Forms_form 8 ["self", "store", "name"] [] (FM ⟨K, fun i => [0, 0, 0, 0, CNoLine, CNoBody, CNotFound, 0, 0, 0, 0, 0, 0, 0, CStore, CLists, CForms, 0, 0, 0, 0, 0, 0, 0, 0, 0, 0, 0, 0, 0, 0, 0, 0, 0, 0, 0, 0, tq8, tq11, 0, 0, 0, 0, 0, 0, 0, 0, 0, 0, 0, 0, 0, 0, 0, 0, 0, 0, 0, 0, 0, 0, 0, 0, 0, ctA_CHECKS].getD i 0⟩ m_Forms_form) := ⟨⟨_, _, F22, ok_Forms_form F22 T D_Store_entry D_NotFound___init__ D_Forms_holds D_read_body, ⟨pg_Forms, hd_Forms, po_Forms, sa_Forms⟩, ⟨a22, fn22, k22⟩⟩⟩
  have D_Forms_stale : DefN l.prog w K mg base CForms "stale" "Forms.stale" s_Forms_stale 6 ["self", "store"] [] (FM ⟨K, fun i => [0, 0, 0, 0, CNoLine, CNoBody, CNotFound, 0, 0, 0, 0, 0, 0, 0, CStore, CLists, CForms, 0, 0, 0, 0, 0, 0, 0, 0, 0, 0, 0, 0, 0, 0, 0, 0, 0, 0, 0, 0, tq8, tq11, 0, 0, 0, 0, 0, 0, 0, 0, 0, 0, 0, 0, 0, 0, 0, 0, 0, 0, 0, 0, 0, 0, 0, 0, 0, ctA_CHECKS].getD i 0⟩ m_Forms_stale) := ⟨⟨_, _, F23, ok_Forms_stale F23 T D_Forms_holds D_Store_entry, ⟨pg_Forms, hd_Forms, po_Forms, sa_Forms⟩, ⟨a23, fn23, k23⟩⟩⟩
  have D_Forms_drop : DefN l.prog w K mg base CForms "drop" "Forms.drop" s_Forms_drop 1 ["self", "store", "name"] [] (FM ⟨K, fun i => [0, 0, 0, 0, CNoLine, CNoBody, CNotFound, 0, 0, 0, 0, 0, 0, 0, CStore, CLists, CForms, 0, 0, 0, 0, 0, 0, 0, 0, 0, 0, 0, 0, 0, 0, 0, 0, 0, 0, 0, 0, tq8, tq11, 0, 0, 0, 0, 0, 0, 0, 0, 0, 0, 0, 0, 0, 0, 0, 0, 0, 0, 0, 0, 0, 0, 0, 0, 0, ctA_CHECKS].getD i 0⟩ m_Forms_drop) := ⟨⟨_, _, F24, ok_Forms_drop F24 T , ⟨pg_Forms, hd_Forms, po_Forms, sa_Forms⟩, ⟨a24, fn24, k24⟩⟩⟩
  have D_law_older_good : DefM l.prog w K mg base "_law_older_good" s_law_older_good 9 ["_law_store", "_law_forms", "_law_first", "_law_second"] [] (FM ⟨K, fun i => [0, 0, 0, 0, CNoLine, CNoBody, CNotFound, 0, 0, 0, 0, 0, 0, 0, CStore, CLists, CForms, 0, 0, 0, 0, 0, 0, 0, 0, 0, 0, 0, 0, 0, 0, 0, 0, 0, 0, 0, 0, tq8, tq11, 0, 0, 0, 0, 0, 0, 0, 0, 0, 0, 0, 0, 0, 0, 0, 0, 0, 0, 0, 0, 0, 0, 0, 0, 0, ctA_CHECKS].getD i 0⟩ m_law_older_good) := ⟨⟨_, _, F25, ok_law_older_good F25 T D_Store_put D_Forms_form D_read_body D_Forms_stale D_Forms_drop, PySem.W.mg_of X G a25⟩⟩
  have D_law_mixed : DefM l.prog w K mg base "_law_mixed" s_law_mixed 1 ["_law_cell_here", "_law_k"] [] (FM ⟨K, fun i => [0, 0, 0, 0, CNoLine, CNoBody, CNotFound, 0, 0, 0, 0, 0, 0, 0, CStore, CLists, CForms, 0, 0, 0, 0, 0, 0, 0, 0, 0, 0, 0, 0, 0, 0, 0, 0, 0, 0, 0, 0, tq8, tq11, 0, 0, 0, 0, 0, 0, 0, 0, 0, 0, 0, 0, 0, 0, 0, 0, 0, 0, 0, 0, 0, 0, 0, 0, 0, ctA_CHECKS].getD i 0⟩ m_law_mixed) := ⟨⟨_, _, F26, ok_law_mixed F26 T , PySem.W.mg_of X G a26⟩⟩
  have D_law_cell : DefM l.prog w K mg base "_law_cell" s_law_cell 2 ["_law_script", "_law_k"] [] (FM ⟨K, fun i => [0, 0, 0, 0, CNoLine, CNoBody, CNotFound, 0, 0, 0, 0, 0, 0, 0, CStore, CLists, CForms, 0, 0, 0, 0, 0, 0, 0, 0, 0, 0, 0, 0, 0, 0, 0, 0, 0, 0, 0, 0, tq8, tq11, 0, 0, 0, 0, 0, 0, 0, 0, 0, 0, 0, 0, 0, 0, 0, 0, 0, 0, 0, 0, 0, 0, 0, 0, 0, ctA_CHECKS].getD i 0⟩ m_law_cell) := ⟨⟨_, _, F27, ok_law_cell F27 T D_law_mixed, PySem.W.mg_of X G a27⟩⟩
  have D_Lists_forget : DefN l.prog w K mg base CLists "forget" "Lists.forget" s_Lists_forget 1 ["self"] [] (FM ⟨K, fun i => [0, 0, 0, 0, CNoLine, CNoBody, CNotFound, 0, 0, 0, 0, 0, 0, 0, CStore, CLists, CForms, 0, 0, 0, 0, 0, 0, 0, 0, 0, 0, 0, 0, 0, 0, 0, 0, 0, 0, 0, 0, tq8, tq11, 0, 0, 0, 0, 0, 0, 0, 0, 0, 0, 0, 0, 0, 0, 0, 0, 0, 0, 0, 0, 0, 0, 0, 0, 0, ctA_CHECKS].getD i 0⟩ m_Lists_forget) := ⟨⟨_, _, F28, ok_Lists_forget F28 T , ⟨pg_Lists, hd_Lists, po_Lists, sa_Lists⟩, ⟨a28, fn28, k28⟩⟩⟩
  have D_law_text_drawn : DefM l.prog w K mg base "_law_text_drawn" s_law_text_drawn 2 ["_law_pile"] [] (FM ⟨K, fun i => [0, 0, 0, 0, CNoLine, CNoBody, CNotFound, 0, 0, 0, 0, 0, 0, 0, CStore, CLists, CForms, 0, 0, 0, 0, 0, 0, 0, 0, 0, 0, 0, 0, 0, 0, 0, 0, 0, 0, 0, 0, tq8, tq11, 0, 0, 0, 0, 0, 0, 0, 0, 0, 0, 0, 0, 0, 0, 0, 0, 0, 0, 0, 0, 0, 0, 0, 0, 0, ctA_CHECKS].getD i 0⟩ m_law_text_drawn) := ⟨⟨_, _, F29, ok_law_text_drawn F29 T D_law_take, PySem.W.mg_of X G a29⟩⟩
  have D_Store_take : DefN l.prog w K mg base CStore "take" "Store.take" s_Store_take 6 ["self", "name", "at"] [("at", .int 0)] (FM ⟨K, fun i => [0, 0, 0, 0, CNoLine, CNoBody, CNotFound, 0, 0, 0, 0, 0, 0, 0, CStore, CLists, CForms, 0, 0, 0, 0, 0, 0, 0, 0, 0, 0, 0, 0, 0, 0, 0, 0, 0, 0, 0, 0, tq8, tq11, 0, 0, 0, 0, 0, 0, 0, 0, 0, 0, 0, 0, 0, 0, 0, 0, 0, 0, 0, 0, 0, 0, 0, 0, 0, ctA_CHECKS].getD i 0⟩ m_Store_take) := ⟨⟨_, _, F30, ok_Store_take F30 T D_look_at_name D_NotFound___init__, ⟨pg_Store, hd_Store, po_Store, sa_Store⟩, ⟨a30, fn30, k30⟩⟩⟩
  have D_law_deed : DefM l.prog w K mg base "_law_deed" s_law_deed 7 ["_law_pile", "_law_store", "_law_stamp"] [] (FM ⟨K, fun i => [0, 0, 0, 0, CNoLine, CNoBody, CNotFound, 0, 0, 0, 0, 0, 0, 0, CStore, CLists, CForms, 0, 0, 0, 0, 0, 0, 0, 0, 0, 0, 0, 0, 0, 0, 0, 0, 0, 0, 0, 0, tq8, tq11, 0, 0, 0, 0, 0, 0, 0, 0, 0, 0, 0, 0, 0, 0, 0, 0, 0, 0, 0, 0, 0, 0, 0, 0, 0, ctA_CHECKS].getD i 0⟩ m_law_deed) := ⟨⟨_, _, F31, ok_law_deed F31 T D_law_take D_Store_put D_law_text_drawn D_Store_entry D_Store_take, PySem.W.mg_of X G a31⟩⟩
  have D_law_read : DefM l.prog w K mg base "_law_read" s_law_read 8 ["_law_text"] [] (FM ⟨K, fun i => [0, 0, 0, 0, CNoLine, CNoBody, CNotFound, 0, 0, 0, 0, 0, 0, 0, CStore, CLists, CForms, 0, 0, 0, 0, 0, 0, 0, 0, 0, 0, 0, 0, 0, 0, 0, 0, 0, 0, 0, 0, tq8, tq11, 0, 0, 0, 0, 0, 0, 0, 0, 0, 0, 0, 0, 0, 0, 0, 0, 0, 0, 0, 0, 0, 0, 0, 0, 0, ctA_CHECKS].getD i 0⟩ m_law_read) := ⟨⟨_, _, F32, ok_law_read F32 T D_read_body, PySem.W.mg_of X G a32⟩⟩
  have D_Store_names : DefN l.prog w K mg base CStore "names" "Store.names" s_Store_names 1 ["self"] [] (FM ⟨K, fun i => [0, 0, 0, 0, CNoLine, CNoBody, CNotFound, 0, 0, 0, 0, 0, 0, 0, CStore, CLists, CForms, 0, 0, 0, 0, 0, 0, 0, 0, 0, 0, 0, 0, 0, 0, 0, 0, 0, 0, 0, 0, tq8, tq11, 0, 0, 0, 0, 0, 0, 0, 0, 0, 0, 0, 0, 0, 0, 0, 0, 0, 0, 0, 0, 0, 0, 0, 0, 0, ctA_CHECKS].getD i 0⟩ m_Store_names) := ⟨⟨_, _, F33, ok_Store_names F33 T , ⟨pg_Store, hd_Store, po_Store, sa_Store⟩, ⟨a33, fn33, k33⟩⟩⟩
  have D_Lists_listed : DefN l.prog w K mg base CLists "listed" "Lists.listed" s_Lists_listed 2 ["self", "store"] [] (FM ⟨K, fun i => [0, 0, 0, 0, CNoLine, CNoBody, CNotFound, 0, 0, 0, 0, 0, 0, 0, CStore, CLists, CForms, 0, 0, 0, 0, 0, 0, 0, 0, 0, 0, 0, 0, 0, 0, 0, 0, 0, 0, 0, 0, tq8, tq11, 0, 0, 0, 0, 0, 0, 0, 0, 0, 0, 0, 0, 0, 0, 0, 0, 0, 0, 0, 0, 0, 0, 0, 0, 0, ctA_CHECKS].getD i 0⟩ m_Lists_listed) := ⟨⟨_, _, F34, ok_Lists_listed F34 T D_Store_names, ⟨pg_Lists, hd_Lists, po_Lists, sa_Lists⟩, ⟨a34, fn34, k34⟩⟩⟩
  have D_law_formed : DefM l.prog w K mg base "_law_formed" s_law_formed 9 ["_law_forms", "_law_store", "_law_name"] [] (FM ⟨K, fun i => [0, 0, 0, 0, CNoLine, CNoBody, CNotFound, 0, 0, 0, 0, 0, 0, 0, CStore, CLists, CForms, 0, 0, 0, 0, 0, 0, 0, 0, 0, 0, 0, 0, 0, 0, 0, 0, 0, 0, 0, 0, tq8, tq11, 0, 0, 0, 0, 0, 0, 0, 0, 0, 0, 0, 0, 0, 0, 0, 0, 0, 0, 0, 0, 0, 0, 0, 0, 0, ctA_CHECKS].getD i 0⟩ m_law_formed) := ⟨⟨_, _, F35, ok_law_formed F35 T D_Forms_form, PySem.W.mg_of X G a35⟩⟩
  have D_law_history_good : DefM l.prog w K mg base "_law_history_good" s_law_history_good 10 ["_law_script", "_law_start", "_law_many", "_law_own"] [] (FM ⟨K, fun i => [0, 0, 0, 0, CNoLine, CNoBody, CNotFound, 0, 0, 0, 0, 0, 0, 0, CStore, CLists, CForms, 0, 0, 0, 0, 0, 0, 0, 0, 0, 0, 0, 0, 0, 0, 0, 0, 0, 0, 0, 0, tq8, tq11, 0, 0, 0, 0, 0, 0, 0, 0, 0, 0, 0, 0, 0, 0, 0, 0, 0, 0, 0, 0, 0, 0, 0, 0, 0, ctA_CHECKS].getD i 0⟩ m_law_history_good) := ⟨⟨_, _, F36, ok_law_history_good F36 T D_Lists___init__ D_Lists_forget D_Store___init__ D_Forms___init__ D_law_deed D_Store_entry D_law_read D_Forms_stale D_Lists_listed D_Store_names D_law_cell D_law_formed, PySem.W.mg_of X G a36⟩⟩
  exact FnOk.law (Γ := ⟨K, fun i => [0, 0, 0, 0, CNoLine, CNoBody, CNotFound, 0, 0, 0, 0, 0, 0, 0, CStore, CLists, CForms, 0, 0, 0, 0, 0, 0, 0, 0, 0, 0, 0, 0, 0, 0, 0, 0, 0, 0, 0, 0, tq8, tq11, 0, 0, 0, 0, 0, 0, 0, 0, 0, 0, 0, 0, 0, 0, 0, 0, 0, 0, 0, 0, 0, 0, 0, 0, 0, ctA_CHECKS].getD i 0⟩) (ok_law F37 T D_law_take D_law_older_good D_Store___init__ D_Forms___init__ D_law_cell D_law_history_good) law_true
end K15
open PySem PySem.W PyProof.Rows
set_option maxRecDepth 100000 in
set_option maxHeartbeats 0 in
theorem PySem.Challenge.cw_loadhall_k15_whole_stores_and_forms_holds : PySem.Challenge.rw_loadhall_k15_whole_stores_and_forms.Holds := by
  w_on; o_law; k_head; (case hw => w_witness2)
  k_fill
  refine L2.walk_of (l := PySem.Challenge.rw_loadhall_k15_whole_stores_and_forms) (n := 63) (k := 11) (x := "_law_script") (CX := fun w => L2.CX (PySem.Challenge.rw_loadhall_k15_whole_stores_and_forms).prog w) (sp := fun w => DM.spLaw _) rfl (by decide) rfl ⟨rfl, by decide, by decide⟩ (fun w h Y => PySem.W.kIn_of Y) ?F (fun _ _ a ns hl _ hS => ⟨a, ns, rfl, hS, hl, fun _ => rfl⟩) (fun _ _ _ _ _ h => by obtain ⟨_, _, _, _, _, _, _, _, _, _, _, _, z⟩ := h; exact z)
  case F =>
    intro w mg fa h KX G hmg
    refine' K15.all_mk KX G hmg ?g_NoLine ?g_NoBody ?g_NotFound ?g_Store ?g_Lists ?g_Forms ?mk_Store ?kp_Store ?pg_Store ?hd_Store ?po_Store ?sa_Store ?na_Store_name ?na_Store_bodies ?na_Store_changed ?mk_Lists ?kp_Lists ?pg_Lists ?hd_Lists ?po_Lists ?sa_Lists ?na_Lists_known ?mk_Forms ?kp_Forms ?pg_Forms ?hd_Forms ?po_Forms ?sa_Forms ?na_Forms_check ?na_Forms_read ?na_Forms_made ?na_Forms_kept ?a0 ?l0 ?c0 ?k0 ?a1 ?l1 ?c1 ?k1 ?a2 ?l2 ?c2 ?k2 ?a3 ?l3 ?c3 ?k3 ?a4 ?l4 ?c4 ?k4 ?a5 ?fn5 ?l5 ?c5 ?k5 ?q5_check ?a6 ?fn6 ?l6 ?c6 ?k6 ?a7 ?fn7 ?l7 ?c7 ?k7 ?a8 ?fn8 ?y8 ?l8 ?c8 ?k8 ?q8_trail ?kt8 ?a9 ?fn9 ?l9 ?c9 ?k9 ?q9_pack ?q9_at ?a10 ?fn10 ?l10 ?c10 ?k10 ?a11 ?fn11 ?y11 ?l11 ?c11 ?k11 ?q11_trail ?kt11 ?a12 ?fn12 ?l12 ?c12 ?k12 ?a13 ?l13 ?c13 ?k13 ?a14 ?l14 ?c14 ?k14 ?a15 ?l15 ?c15 ?k15 ?a16 ?l16 ?c16 ?k16 ?a17 ?l17 ?c17 ?k17 ?a18 ?l18 ?c18 ?k18 ?a19 ?l19 ?c19 ?k19 ?a20 ?l20 ?c20 ?k20 ?q20_most ?a21 ?l21 ?c21 ?k21 ?a22 ?fn22 ?l22 ?c22 ?k22 ?a23 ?fn23 ?l23 ?c23 ?k23 ?a24 ?fn24 ?l24 ?c24 ?k24 ?a25 ?l25 ?c25 ?k25 ?a26 ?l26 ?c26 ?k26 ?a27 ?l27 ?c27 ?k27 ?a28 ?fn28 ?l28 ?c28 ?k28 ?a29 ?l29 ?c29 ?k29 ?a30 ?fn30 ?l30 ?c30 ?k30 ?q30_at ?a31 ?l31 ?c31 ?k31 ?a32 ?l32 ?c32 ?k32 ?a33 ?fn33 ?l33 ?c33 ?k33 ?a34 ?fn34 ?l34 ?c34 ?k34 ?a35 ?l35 ?c35 ?k35 ?a36 ?l36 ?c36 ?k36 ?a37 ?l37 ?c37 ?k37 ?g_CHECKS ?kt_CHECKS ?xq_NoBody ?xo_NoBody ?xh_NoBody ?xs_NoBody ?xb_NoBody ?xt_NoBody ?xk_NoBody ?xf_NoBody_row ?xf_NoBody_trail ?xq_NotFound ?xo_NotFound ?xh_NotFound ?xs_NotFound ?xb_NotFound ?xt_NotFound ?xk_NotFound ?xf_NotFound_name ?xf_NotFound_trail ?z_isinstance ?z_str ?z_len ?z_all ?z_tuple ?z_enumerate ?z_list ?z_sorted ?z_range ?z_int ?z_max ?z_LookupError ?z_ValueError ?c_LONGEST ?c_SMALL ?c_MOST_PARTS ?c_MOST_FIGURES ?c_FIGURES ?c_MOST_TERMS ?t_NoBody ?i_NoBody ?b_NoBody ?t_NotFound ?i_NotFound ?b_NotFound ?t_NoLine ?b_NoLine ?k_NoLine ?x_NoLine ?h_NoBody ?s_NoBody ?ga_NoBody ?gg_NoBody ?gc_NoBody ?mo_NoBody ?nf_NoBody_row ?nf_NoBody_trail ?n_NoBody_NotFound ?h_NotFound ?s_NotFound ?ga_NotFound ?gg_NotFound ?gc_NotFound ?mo_NotFound ?nf_NotFound_name ?nf_NotFound_trail ?n_NotFound_NoBody ?oc_n ?oc_t
    (case g_NoLine => k_is); (case g_NoBody => k_is); (case g_NotFound => k_is); (case g_Store => k_is)
    (case g_Lists => k_is); (case g_Forms => k_is); (case mk_Store => k_is); (case kp_Store => k_is)
    (case pg_Store => k_is); (case hd_Store => k_is); (case po_Store => k_is); (case sa_Store => k_is)
    (case na_Store_name => k_is); (case na_Store_bodies => k_is); (case na_Store_changed => k_is); (case mk_Lists => k_is)
    (case kp_Lists => k_is); (case pg_Lists => k_is); (case hd_Lists => k_is); (case po_Lists => k_is)
    (case sa_Lists => k_is); (case na_Lists_known => k_is); (case mk_Forms => k_is); (case kp_Forms => k_is)
    (case pg_Forms => k_is); (case hd_Forms => k_is); (case po_Forms => k_is); (case sa_Forms => k_is)
    (case na_Forms_check => k_is); (case na_Forms_read => k_is); (case na_Forms_made => k_is); (case na_Forms_kept => k_is)
    (case a0 => k_is); (case l0 => k_is); (case c0 => k_is); (case k0 => k_is)
    (case a1 => k_is); (case l1 => k_is); (case c1 => k_is); (case k1 => k_is)
    (case a2 => k_is); (case l2 => k_is); (case c2 => k_is); (case k2 => k_is)
    (case a3 => k_is); (case l3 => k_is); (case c3 => k_is); (case k3 => k_is)
    (case a4 => k_is); (case l4 => k_is); (case c4 => k_is); (case k4 => k_is)
    (case a5 => k_is); (case fn5 => k_is); (case l5 => k_is); (case c5 => k_is)
    (case k5 => k_is); (case q5_check => k_is); (case a6 => k_is); (case fn6 => k_is)
    (case l6 => k_is); (case c6 => k_is); (case k6 => k_is); (case a7 => k_is)
    (case fn7 => k_is); (case l7 => k_is); (case c7 => k_is); (case k7 => k_is)
    (case a8 => k_is); (case fn8 => k_is); (case y8 => k_is); (case l8 => k_is)
    (case c8 => k_is); (case k8 => k_is); (case q8_trail => k_is); (case kt8 => k_is)
    (case a9 => k_is); (case fn9 => k_is); (case l9 => k_is); (case c9 => k_is)
    (case k9 => k_is); (case q9_pack => k_is); (case q9_at => k_is); (case a10 => k_is)
    (case fn10 => k_is); (case l10 => k_is); (case c10 => k_is); (case k10 => k_is)
    (case a11 => k_is); (case fn11 => k_is); (case y11 => k_is); (case l11 => k_is)
    (case c11 => k_is); (case k11 => k_is); (case q11_trail => k_is); (case kt11 => k_is)
    (case a12 => k_is); (case fn12 => k_is); (case l12 => k_is); (case c12 => k_is)
    (case k12 => k_is); (case a13 => k_is); (case l13 => k_is); (case c13 => k_is)
    (case k13 => k_is); (case a14 => k_is); (case l14 => k_is); (case c14 => k_is)
    (case k14 => k_is); (case a15 => k_is); (case l15 => k_is); (case c15 => k_is)
    (case k15 => k_is); (case a16 => k_is); (case l16 => k_is); (case c16 => k_is)
    (case k16 => k_is); (case a17 => k_is); (case l17 => k_is); (case c17 => k_is)
    (case k17 => k_is); (case a18 => k_is); (case l18 => k_is); (case c18 => k_is)
    (case k18 => k_is); (case a19 => k_is); (case l19 => k_is); (case c19 => k_is)
    (case k19 => k_is); (case a20 => k_is); (case l20 => k_is); (case c20 => k_is)
    (case k20 => k_is); (case q20_most => k_is); (case a21 => k_is); (case l21 => k_is)
    (case c21 => k_is); (case k21 => k_is); (case a22 => k_is); (case fn22 => k_is)
    (case l22 => k_is); (case c22 => k_is); (case k22 => k_is); (case a23 => k_is)
    (case fn23 => k_is); (case l23 => k_is); (case c23 => k_is); (case k23 => k_is)
    (case a24 => k_is); (case fn24 => k_is); (case l24 => k_is); (case c24 => k_is)
    (case k24 => k_is); (case a25 => k_is); (case l25 => k_is); (case c25 => k_is)
    (case k25 => k_is); (case a26 => k_is); (case l26 => k_is); (case c26 => k_is)
    (case k26 => k_is); (case a27 => k_is); (case l27 => k_is); (case c27 => k_is)
    (case k27 => k_is); (case a28 => k_is); (case fn28 => k_is); (case l28 => k_is)
    (case c28 => k_is); (case k28 => k_is); (case a29 => k_is); (case l29 => k_is)
    (case c29 => k_is); (case k29 => k_is); (case a30 => k_is); (case fn30 => k_is)
    (case l30 => k_is); (case c30 => k_is); (case k30 => k_is); (case q30_at => k_is)
    (case a31 => k_is); (case l31 => k_is); (case c31 => k_is); (case k31 => k_is)
    (case a32 => k_is); (case l32 => k_is); (case c32 => k_is); (case k32 => k_is)
    (case a33 => k_is); (case fn33 => k_is); (case l33 => k_is); (case c33 => k_is)
    (case k33 => k_is); (case a34 => k_is); (case fn34 => k_is); (case l34 => k_is)
    (case c34 => k_is); (case k34 => k_is); (case a35 => k_is); (case l35 => k_is)
    (case c35 => k_is); (case k35 => k_is); (case a36 => k_is); (case l36 => k_is)
    (case c36 => k_is); (case k36 => k_is); (case a37 => k_is); (case l37 => k_is)
    (case c37 => k_is); (case k37 => k_is); (case g_CHECKS => k_is); (case kt_CHECKS => k_is)
    (case xh_NoBody => k_is); (case xs_NoBody => k_is); (case xb_NoBody => k_is); (case xt_NoBody => k_is)
    (case xk_NoBody => k_is); (case xf_NoBody_row => k_is); (case xf_NoBody_trail => k_is); (case xh_NotFound => k_is)
    (case xs_NotFound => k_is); (case xb_NotFound => k_is); (case xt_NotFound => k_is); (case xk_NotFound => k_is)
    (case xf_NotFound_name => k_is); (case xf_NotFound_trail => k_is); (case z_isinstance => k_is); (case z_str => k_is)
    (case z_len => k_is); (case z_all => k_is); (case z_tuple => k_is); (case z_enumerate => k_is)
    (case z_list => k_is); (case z_sorted => k_is); (case z_range => k_is); (case z_int => k_is)
    (case z_max => k_is); (case z_LookupError => k_is); (case z_ValueError => k_is); (case c_LONGEST => k_is)
    (case c_SMALL => k_is); (case c_MOST_PARTS => k_is); (case c_MOST_FIGURES => k_is); (case c_FIGURES => k_is)
    (case c_MOST_TERMS => k_is); (case t_NoBody => k_is); (case i_NoBody => k_is); (case b_NoBody => k_is)
    (case t_NotFound => k_is); (case i_NotFound => k_is); (case b_NotFound => k_is); (case t_NoLine => k_is)
    (case b_NoLine => k_is); (case k_NoLine => k_is); (case h_NoBody => k_is); (case s_NoBody => k_is)
    (case ga_NoBody => k_is); (case gg_NoBody => k_is); (case gc_NoBody => k_is); (case mo_NoBody => k_is)
    (case nf_NoBody_row => k_is); (case nf_NoBody_trail => k_is); (case n_NoBody_NotFound => k_is); (case h_NotFound => k_is)
    (case s_NotFound => k_is); (case ga_NotFound => k_is); (case gg_NotFound => k_is); (case gc_NotFound => k_is)
    (case mo_NotFound => k_is); (case nf_NotFound_name => k_is); (case nf_NotFound_trail => k_is); (case n_NotFound_NoBody => k_is)
    (case oc_n => k_is); (case oc_t => k_is)
    (case x_NoLine => k_exc)
    (case xq_NoBody => kx_is)
    (case xo_NoBody => kx_is)
    (case xq_NotFound => kx_is)
    (case xo_NotFound => kx_is)
