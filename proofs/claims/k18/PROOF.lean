import PyProof.Rows.All
import Wide.All
import OpenK.AllK
import Wide.FinOn
import HandS.ForMost
import HandS.ForExc
import HandS.Wide
import HandS.IsInst
import HandS.StrMore
import HandS.Defaults
import HandS.WordsExc
import HandS.TryOnly
import HandS.ExcIs
import HandS.ExcField
import HandS.NoneIn
import HandS.ReplaceLit
import KE.KExcIs
import KE.DataEq
import HandS.MakeKw
import HandS.MakeKwOnly
import HandS.More
import HandS.Finally
import PyProof.Rows.SortStr
import PyProof.CollectIter
import PyProof.WalksMore
import HandS.ExcInit
import HandS.New
import KE.KExcInit
import KE.KExcLine
import PyProof.FactsLen
import HandS.WordsDict
import HandS.Iter
import HandS.DictTup
import HandS.TupLen
import HandS.Deep
import HandS.Conv
import KE.KSortTupG
import KE.KStateDown
import HandS.Head0
import HandS.Head1
import HandS.Head2
import HandS.HeadEnd
import HandS.HeadHook1
import HandS.HeadHook2
import HandS.SetKeys
import HandS.SetBool
import HandS.Strs
import HandS.DictComp
import PySem.Challenge.RW_loadhall_k18_other_finders
set_option Elab.async false
set_option linter.all false
set_option maxRecDepth 100000
set_option maxHeartbeats 4000000
/-! DM0: Python's steps as functions of data: values (Dt), a store of what may change (MO, by numbers), worlds (Wd), how a reading follows such a function. -/
namespace DM
open PySem PySem.Spec PyProof.Rows L2
inductive Dt where
  | non | bl (b : Bool) | int (i : Int) | str (s : Str) | lst (l : List Dt) | tup (l : List Dt) | ptr (i : Nat) | scr (l : List Dt) | ktp (l : List Dt) | ty (n : String) | cls (n : Nat) | exc (n : Nat) (ns : List Str) (ds : List Dt)
/-- what may change -/
inductive MO where
  | lst (ds : List Dt) | dK (kvs : List (Key × Dt)) | dT (kvs : List (List Key × Dt)) | ins (n : Nat) (fs : List (Str × Dt)) | gone | lk (kvs : List (Key × Dt)) | lkT (kvs : List (List Key × Dt))
abbrev Mem := List MO
abbrev Env := List (Option Dt)
/-- at a: an exception of the class cls, its dict d -/
def exK (cls : Value) (d : Option Addr) (a : Addr) : HO := .ext fun h => ∃ (oe : Obj) (vs : Array Value), h.get? a = some oe ∧ Zc cls d oe ∧ oe.data = .fields vs
/-- Γ: where the classes stand; α: where the store's things stand; B: what is known and stays; F: what stands aside meanwhile -/
structure Gm where
  K : PySem.W.Frag
  c : Nat → Addr
structure Wd where
  Γ : Gm
  α : List Addr
  B : Hp
  F : Hp
structure Le (ω ω' : Wd) : Prop where
  g : ω'.Γ = ω.Γ
  a : ∀ (i : Nat) (a : Addr), ω.α[i]? = some a → ω'.α[i]? = some a
  b : Same ω.B ω'.B
  f : ω'.F = ω.F
structure Le0 (ω ω' : Wd) : Prop where
  g : ω'.Γ = ω.Γ
  a : ∀ (i : Nat) (a : Addr), ω.α[i]? = some a → ω'.α[i]? = some a
  b : Same ω.B ω'.B
theorem Le.to0 {ω ω' : Wd} (l : Le ω ω') : Le0 ω ω' := ⟨l.g, l.a, l.b⟩
theorem Le0.trans {a b c : Wd} (x : Le0 a b) (y : Le0 b c) : Le0 a c := ⟨y.g.trans x.g, fun i p h => y.a i p (x.a i p h), x.b.trans y.b⟩
theorem Le.refl (ω : Wd) : Le ω ω := ⟨rfl, fun _ _ h => h, Same.refl _, rfl⟩
theorem Le.trans {a b c : Wd} (x : Le a b) (y : Le b c) : Le a c := ⟨y.g.trans x.g, fun i p h => y.a i p (x.a i p h), x.b.trans y.b, y.f.trans x.f⟩
/-- a list of the written part -/
def KLst (K : PySem.W.Frag) (a : Addr) (xs : List V) : Prop := ∃ (o : Obj) (its : Array Value) (n : Nat), K.lookup a = some o ∧ o.cls = .type "list" ∧ o.dict = none ∧ o.data = .seq its n ∧ its.size ≤ sizeLine ∧ Vals xs its.toList
/-- a tuple of the written part -/
def KTup (K : PySem.W.Frag) (a : Addr) (xs : List V) : Prop := ∃ (o : Obj) (its : Array Value) (n : Nat), K.lookup a = some o ∧ o.cls = .type "tuple" ∧ o.data = .seq its n ∧ its.size ≤ sizeLine ∧ Vals xs its.toList
mutual
inductive Rp (ω : Wd) : V → Dt → Prop
  | non : Rp ω .non .non
  | bl (b : Bool) : Rp ω (.bl b) (.bl b)
  | int (i : Int) : Rp ω (.int i) (.int i)
  | str (x : Str) : Rp ω (.str x) (.str x)
  | lst {a : Addr} {xs : List V} {ds : List Dt} : ω.B a = some (.lst xs) → RpL ω xs ds → Rp ω (.ref a) (.lst ds)
  | tup {a : Addr} {xs : List V} {ds : List Dt} : ω.B a = some (.tup xs) → RpL ω xs ds → Rp ω (.ref a) (.tup ds)
  | scr {a : Addr} {xs : List V} {ds : List Dt} : ((∃ o, ω.B a = some (.lst xs) ∨ ω.B a = some (.frz o (.lst xs))) ∨ KLst ω.Γ.K a xs) → RpL ω xs ds → Rp ω (.ref a) (.scr ds)
  | ptr {i : Nat} {a : Addr} : ω.α[i]? = some a → Rp ω (.ref a) (.ptr i)
  | ktp {a : Addr} {xs : List V} {ds : List Dt} : KTup ω.Γ.K a xs → RpL ω xs ds → Rp ω (.ref a) (.ktp ds)
  | ty (n : String) : Rp ω (.ty n) (.ty n)
  | cls (n : Nat) : Rp ω (.ref (ω.Γ.c n)) (.cls n)
  | exn {a : Addr} {n : Nat} : ω.B a = some (exK (.ref (ω.Γ.c n)) none a) → Rp ω (.ref a) (.exc n [] [])
  | exd {a dd : Addr} {n : Nat} {ns : List Str} {vs : List V} {ds : List Dt} : ω.B a = some (exK (.ref (ω.Γ.c n)) (some dd) a) → ω.B dd = some (.xd (ns.zip vs)) → RpL ω vs ds → Rp ω (.ref a) (.exc n ns ds)
inductive RpL (ω : Wd) : List V → List Dt → Prop
  | nil : RpL ω [] []
  | cons {v : V} {vs : List V} {d : Dt} {ds : List Dt} : Rp ω v d → RpL ω vs ds → RpL ω (v :: vs) (d :: ds)
end
inductive RpK {κ : Type} (ω : Wd) : List (κ × V) → List (κ × Dt) → Prop
  | nil : RpK ω [] []
  | cons {k : κ} {v : V} {d : Dt} {vs : List (κ × V)} {ds : List (κ × Dt)} : Rp ω v d → RpK ω vs ds → RpK ω ((k, v) :: vs) ((k, d) :: ds)
mutual
theorem Rp.mono0 {ω ω' : Wd} (e : Le0 ω ω') : ∀ {v : V} {d : Dt}, Rp ω v d → Rp ω' v d
  | _, _, .non => .non
  | _, _, .bl b => .bl b
  | _, _, .int i => .int i
  | _, _, .str x => .str x
  | _, _, .lst h r => .lst (e.b _ _ h) (RpL.mono0 e r)
  | _, _, .tup h r => .tup (e.b _ _ h) (RpL.mono0 e r)
  | _, _, .scr h r => .scr (h.elim (fun ⟨o, z⟩ => .inl ⟨o, z.elim (fun z => .inl (e.b _ _ z)) fun z => .inr (e.b _ _ z)⟩) fun z => .inr (by rw [e.g]; exact z)) (RpL.mono0 e r)
  | _, _, .ptr h => .ptr (e.a _ _ h)
  | _, _, .ktp h r => .ktp (by rw [e.g]; exact h) (RpL.mono0 e r)
  | _, _, .ty n => .ty n
  | _, _, .cls n => by rw [← e.g]; exact .cls n
  | _, _, .exn h => .exn (by rw [e.g]; exact e.b _ _ h)
  | _, _, .exd h1 h2 r => .exd (by rw [e.g]; exact e.b _ _ h1) (e.b _ _ h2) (RpL.mono0 e r)
theorem RpL.mono0 {ω ω' : Wd} (e : Le0 ω ω') : ∀ {v : List V} {d : List Dt}, RpL ω v d → RpL ω' v d
  | _, _, .nil => .nil
  | _, _, .cons h r => .cons (Rp.mono0 e h) (RpL.mono0 e r)
end
theorem RpK.mono0 {κ : Type} {ω ω' : Wd} (e : Le0 ω ω') {vs : List (κ × V)} {ds : List (κ × Dt)} (r : RpK ω vs ds) : RpK ω' vs ds := by
  induction r with
  | nil => exact .nil
  | cons a _ ih => exact .cons (a.mono0 e) ih
theorem Rp.mono {ω ω' : Wd} (e : Le ω ω') {v : V} {d : Dt} (r : Rp ω v d) : Rp ω' v d := r.mono0 e.to0
theorem RpL.mono {ω ω' : Wd} (e : Le ω ω') {v : List V} {d : List Dt} (r : RpL ω v d) : RpL ω' v d := r.mono0 e.to0
theorem RpK.mono {κ : Type} {ω ω' : Wd} (e : Le ω ω') {vs : List (κ × V)} {ds : List (κ × Dt)} (r : RpK ω vs ds) : RpK ω' vs ds := r.mono0 e.to0
section
variable {ω : Wd} {vs ws : List V} {ds es : List Dt} {v : V} {d : Dt}
theorem RpL.len : ∀ {vs : List V} {ds : List Dt}, RpL ω vs ds → vs.length = ds.length
  | _, _, .nil => rfl
  | _, _, .cons _ r => congrArg Nat.succ r.len
theorem RpL.app : ∀ {vs ws : List V} {ds es : List Dt}, RpL ω vs ds → RpL ω ws es → RpL ω (vs ++ ws) (ds ++ es)
  | _, _, _, _, .nil, h => h
  | _, _, _, _, .cons a r, h => .cons a (r.app h)
theorem RpL.get : ∀ {vs : List V} {ds : List Dt} {i : Nat} {d : Dt}, RpL ω vs ds → ds[i]? = some d → ∃ v, vs[i]? = some v ∧ Rp ω v d
  | _, _, _, _, .nil, h => by simp at h
  | _, _, 0, _, .cons a r, h => by
    simp at h
    subst h
    exact ⟨_, rfl, a⟩
  | _, _, i + 1, _, .cons a r, h => by
    rw [List.getElem?_cons_succ] at h
    obtain ⟨v, e, q⟩ := r.get h
    exact ⟨v, by simpa using e, q⟩
theorem RpL.take : ∀ {vs : List V} {ds : List Dt} (n : Nat), RpL ω vs ds → RpL ω (vs.take n) (ds.take n)
  | _, _, 0, _ => .nil
  | _, _, _ + 1, .nil => .nil
  | _, _, n + 1, .cons a r => .cons a (r.take n)
theorem RpL.drop : ∀ {vs : List V} {ds : List Dt} (n : Nat), RpL ω vs ds → RpL ω (vs.drop n) (ds.drop n)
  | _, _, 0, h => h
  | _, _, _ + 1, .nil => .nil
  | _, _, n + 1, .cons a r => r.drop n
theorem RpL.set : ∀ {vs : List V} {ds : List Dt} {v : V} {d : Dt} (n : Nat), RpL ω vs ds → Rp ω v d → RpL ω (vs.set n v) (ds.set n d)
  | _, _, _, _, _, .nil, _ => .nil
  | _, _, _, _, 0, .cons a r, h => .cons h r
  | _, _, _, _, n + 1, .cons a r, h => .cons a (r.set n h)
theorem RpL.rep {v : V} {d : Dt} (h : Rp ω v d) : ∀ n, RpL ω (List.replicate n v) (List.replicate n d)
  | 0 => .nil
  | n + 1 => .cons h (RpL.rep h n)
theorem RpL.strs : ∀ (ys : List Str), RpL ω (ys.map V.str) (ys.map Dt.str)
  | [] => .nil
  | y :: ys => .cons (.str y) (RpL.strs ys)
theorem RpL.of_strs : ∀ {ys : List Str} {vs : List V}, RpL ω vs (ys.map Dt.str) → vs = ys.map V.str
  | [], _, h => by cases h; rfl
  | y :: ys, _, h => by
    cases h with
    | cons a r =>
      cases a
      rw [RpL.of_strs r]
      rfl
theorem RpL.of_ints : ∀ {ys : List Int} {vs : List V}, RpL ω vs (ys.map Dt.int) → vs = ys.map V.int
  | [], _, h => by cases h; rfl
  | y :: ys, _, h => by
    cases h with
    | cons a r =>
      cases a
      rw [RpL.of_ints r]
      rfl
theorem RpL.of_bls : ∀ {ys : List Bool} {vs : List V}, RpL ω vs (ys.map Dt.bl) → vs = ys.map V.bl
  | [], _, h => by cases h; rfl
  | y :: ys, _, h => by
    cases h with
    | cons a r =>
      cases a
      rw [RpL.of_bls r]
      rfl
theorem RpL.one {d : Dt} {vs : List V} (h : RpL ω vs [d]) : ∃ v, vs = [v] ∧ Rp ω v d := by
  cases h with
  | cons a r =>
    cases r
    exact ⟨_, rfl, a⟩
theorem RpL.two {d e : Dt} {vs : List V} (h : RpL ω vs [d, e]) : ∃ v w, vs = [v, w] ∧ Rp ω v d ∧ Rp ω w e := by
  cases h with
  | cons a r =>
    cases r with
    | cons b r =>
      cases r
      exact ⟨_, _, rfl, a, b⟩
end
/-! ### heaps -/
theorem same_upd {H : Hp} {p : Addr} {o : HO} (h : H p = none) : Same H (upd H p o) := fun b x e => by
  rw [upd_ne (ne_of_none e h)]
  exact e
theorem same_upd2 {B H : Hp} {p : Addr} {o : HO} (e : Same B H) : Same (upd B p o) (upd H p o) := fun b x h => by
  by_cases hb : b = p
  · subst hb
    rw [upd_same] at h ⊢
    exact h
  · rw [upd_ne hb] at h ⊢
    exact e b x h
theorem same_hid {B H : Hp} {p : Addr} {o : HO} (e : Same B H) (h : B p = none) : Same B (upd H p o) := fun b x q => by
  rw [upd_ne (ne_of_none q h)]
  exact e b x q
/-- what stands at a, as the store tells -/
def MOR (ω : Wd) (H : Hp) (a : Addr) : MO → Prop
  | .lst ds => ω.B a = none ∧ ∃ xs, H a = some (.lst xs) ∧ RpL ω xs ds
  | .dK kvs => ω.B a = none ∧ ∃ vs, H a = some (.dK vs) ∧ RpK ω vs kvs
  | .dT kvs => ω.B a = none ∧ ∃ vs, H a = some (.dT vs) ∧ RpK ω vs kvs
  | .ins n fs => ω.B a = none ∧ ∃ dx vs, H a = some (.ins (ω.Γ.c n) dx vs) ∧ RpK ω vs fs
  | .gone => ∃ o, H a = some o
  | .lk kvs => ∃ o vs, ω.B a = some (.frz o (.dK vs)) ∧ H a = some (.frz o (.dK vs)) ∧ RpK ω vs kvs
  | .lkT kvs => ∃ o vs, ω.B a = some (.frz o (.dT vs)) ∧ H a = some (.frz o (.dT vs)) ∧ RpK ω vs kvs
/-- what may stand aside: lists, sets, dicts that grow -/
def Aside (o : HO) : Prop := (∃ xs, o = .lst xs) ∨ (∃ p, o = .ext p) ∨ ∃ kvs, o = .dK kvs
structure WR (ω : Wd) (μ : Mem) (H : Hp) : Prop where
  x : Same ω.B H
  len : ω.α.length = μ.length
  inj : ∀ (i j : Nat) (a : Addr), ω.α[i]? = some a → ω.α[j]? = some a → i = j
  at_ : ∀ (i : Nat) (a : Addr) (o : MO), ω.α[i]? = some a → μ[i]? = some o → MOR ω H a o
  fr : Same ω.F H
  fa : ∀ (i : Nat) (a : Addr), ω.α[i]? = some a → ω.F a = none
  fb : ∀ (a : Addr) (o : HO), ω.F a = some o → ω.B a = none ∧ Aside o
section
variable {ω ω' : Wd} {μ : Mem} {H H' : Hp} {a p : Addr} {o : MO} {u : HO} {i : Nat}
theorem MOR.there (h : MOR ω H a o) : ∃ u, H a = some u := by
  cases o with
  | lst ds => obtain ⟨_, xs, e, _⟩ := h; exact ⟨_, e⟩
  | dK ds => obtain ⟨_, xs, e, _⟩ := h; exact ⟨_, e⟩
  | dT ds => obtain ⟨_, xs, e, _⟩ := h; exact ⟨_, e⟩
  | ins n ds => obtain ⟨_, _, xs, e, _⟩ := h; exact ⟨_, e⟩
  | gone => exact h
  | lk ds => obtain ⟨_, _, _, e, _⟩ := h; exact ⟨_, e⟩
  | lkT ds => obtain ⟨_, _, _, e, _⟩ := h; exact ⟨_, e⟩
theorem MOR.move0 (h : MOR ω H a o) (l : Le0 ω ω') (e : H' a = H a) (b : ω.B a = none → ω'.B a = none) : MOR ω' H' a o := by
  cases o with
  | lst ds => obtain ⟨n, xs, q, r⟩ := h; exact ⟨b n, xs, e.trans q, r.mono0 l⟩
  | dK ds => obtain ⟨n, xs, q, r⟩ := h; exact ⟨b n, xs, e.trans q, r.mono0 l⟩
  | dT ds => obtain ⟨n, xs, q, r⟩ := h; exact ⟨b n, xs, e.trans q, r.mono0 l⟩
  | ins n ds => obtain ⟨n', dx, xs, q, r⟩ := h; exact ⟨b n', dx, xs, by rw [l.g]; exact e.trans q, r.mono0 l⟩
  | gone => obtain ⟨u, q⟩ := h; exact ⟨u, e.trans q⟩
  | lk ds => obtain ⟨o, vs, b1, q, r⟩ := h; exact ⟨o, vs, l.b _ _ b1, e.trans q, r.mono0 l⟩
  | lkT ds => obtain ⟨o, vs, b1, q, r⟩ := h; exact ⟨o, vs, l.b _ _ b1, e.trans q, r.mono0 l⟩
theorem MOR.move (h : MOR ω H a o) (l : Le ω ω') (e : H' a = H a) (b : ω.B a = none → ω'.B a = none) : MOR ω' H' a o := h.move0 l.to0 e b
theorem WR.known (w : WR ω μ H) (h : ω.α[i]? = some a) : ∃ o, μ[i]? = some o := by
  have hi := (List.getElem?_eq_some_iff.mp h).1
  rw [w.len] at hi
  exact ⟨_, List.getElem?_eq_getElem hi⟩
theorem WR.fresh (w : WR ω μ H) (n : H p = none) (h : ω.α[i]? = some a) : a ≠ p := fun z => by
  obtain ⟨o, e⟩ := w.known h
  obtain ⟨u, q⟩ := (w.at_ i a o h e).there
  rw [z, n] at q
  cases q
/-- less stands aside -/
theorem WR.reF {F' : Hp} (w : WR ω μ H) (s : Same F' ω.F) : WR { ω with F := F' } μ H :=
  ⟨w.x, w.len, w.inj, fun i a o h e => (w.at_ i a o h e).move0 ⟨rfl, fun _ _ h => h, Same.refl _⟩ rfl fun z => z, s.trans w.fr, fun i a h => s.free (w.fa i a h), fun a o e => w.fb a o (s _ _ e)⟩
/-- a thing that is known from then on -/
theorem WR.newB (w : WR ω μ H) (n : H p = none) : Le ω { ω with B := upd ω.B p u } ∧ WR { ω with B := upd ω.B p u } μ (upd H p u) := by
  have l : Le ω { ω with B := upd ω.B p u } := ⟨rfl, fun _ _ h => h, same_upd (w.x.free n), rfl⟩
  refine ⟨l, ⟨same_upd2 w.x, w.len, w.inj, fun i a o h e => ?_, same_hid w.fr (w.fr.free n), w.fa, fun a o e => ⟨(upd_ne (ne_of_none e (w.fr.free n))).trans (w.fb a o e).1, (w.fb a o e).2⟩⟩⟩
  have hp := w.fresh n h
  exact (w.at_ i a o h e).move l (upd_ne hp) fun z => (upd_ne hp).trans z
/-- a new thing that nobody tells of -/
theorem WR.newH (w : WR ω μ H) (n : H p = none) : WR ω μ (upd H p u) :=
  ⟨same_hid w.x (w.x.free n), w.len, w.inj, fun i a o h e => (w.at_ i a o h e).move (Le.refl ω) (upd_ne (w.fresh n h)) fun z => z, same_hid w.fr (w.fr.free n), w.fa, w.fb⟩
/-- a new thing of the store -/
theorem WR.newM (w : WR ω μ H) (n : H p = none) (h : MOR { ω with α := ω.α ++ [p] } (upd H p u) p o) : Le ω { ω with α := ω.α ++ [p] } ∧ WR { ω with α := ω.α ++ [p] } (μ ++ [o]) (upd H p u) ∧ (ω.α ++ [p])[μ.length]? = some p := by
  have l : Le ω { ω with α := ω.α ++ [p] } := ⟨rfl, fun i a h => by
    show (ω.α ++ [p])[i]? = some a
    rw [List.getElem?_append_left (List.getElem?_eq_some_iff.mp h).1]
    exact h, Same.refl _, rfl⟩
  have at_last : ∀ i a, (ω.α ++ [p])[i]? = some a → ω.α[i]? = some a ∨ (i = ω.α.length ∧ a = p) := fun i a q => by
    by_cases hi : i < ω.α.length
    · rw [List.getElem?_append_left hi] at q
      exact .inl q
    · have h2 := (List.getElem?_eq_some_iff.mp q).1
      rw [List.length_append, List.length_singleton] at h2
      have e : i = ω.α.length := by omega
      subst e
      rw [List.getElem?_append_right (Nat.le_refl _), Nat.sub_self] at q
      exact .inr ⟨rfl, by simpa using q.symm⟩
  refine ⟨l, ⟨same_hid w.x (w.x.free n), by simp [w.len], fun i j a h1 h2 => ?_, fun i a o' h1 e => ?_, same_hid w.fr (w.fr.free n), fun i a h1 => (at_last i a h1).elim (w.fa i a) fun z => by rw [z.2]; exact w.fr.free n, w.fb⟩, ?_⟩
  · rcases at_last i a h1 with q1 | ⟨q1, e1⟩
    · rcases at_last j a h2 with q2 | ⟨q2, e2⟩
      · exact w.inj i j a q1 q2
      · exact absurd e2 (w.fresh n q1)
    · rcases at_last j a h2 with q2 | ⟨q2, e2⟩
      · exact absurd e1 (w.fresh n q2)
      · rw [q1, q2]
  · rcases at_last i a h1 with q1 | ⟨q1, e1⟩
    · have hi : i < μ.length := by
        rw [← w.len]
        exact (List.getElem?_eq_some_iff.mp q1).1
      rw [List.getElem?_append_left hi] at e
      exact (w.at_ i a o' q1 e).move l (upd_ne (w.fresh n q1)) fun z => z
    · subst e1
      rw [q1, w.len, List.getElem?_append_right (Nat.le_refl _), Nat.sub_self] at e
      cases e
      exact h
  · rw [← w.len, List.getElem?_append_right (Nat.le_refl _), Nat.sub_self]
    rfl
/-- a thing of the store is changed -/
theorem WR.put (w : WR ω μ H) (h : ω.α[i]? = some a) (hb : ω.B a = none) (n : MOR ω (upd H a u) a o) : WR ω (μ.set i o) (upd H a u) := by
  refine ⟨same_hid w.x hb, by rw [List.length_set]; exact w.len, w.inj, fun j b o' h1 e => ?_, same_hid w.fr (w.fa i a h), w.fa, w.fb⟩
  by_cases hj : j = i
  · subst hj
    rw [h] at h1
    cases h1
    have hi : j < μ.length := by
      rw [← w.len]
      exact (List.getElem?_eq_some_iff.mp h).1
    rw [List.getElem?_set_self hi] at e
    cases e
    exact n
  · rw [List.getElem?_set_ne (Ne.symm hj)] at e
    have hne : b ≠ a := fun z => hj (w.inj j i b h1 (by rw [z]; exact h))
    exact (w.at_ j b o' h1 e).move (Le.refl ω) (upd_ne hne) fun z => z
/-- a list of the store is known from then on -/
theorem WR.freeze {ds : List Dt} (w : WR ω μ H) (h : ω.α[i]? = some a) (e : μ[i]? = some (.lst ds)) : ∃ ω', Le ω ω' ∧ WR ω' (μ.set i .gone) H ∧ Rp ω' (.ref a) (.lst ds) := by
  obtain ⟨hb, xs, hx, r⟩ := w.at_ i a _ h e
  have l : Le ω { ω with B := upd ω.B a (.lst xs) } := ⟨rfl, fun _ _ h => h, same_upd hb, rfl⟩
  refine ⟨{ ω with B := upd ω.B a (.lst xs) }, l, ⟨fun b u q => ?_, by rw [List.length_set]; exact w.len, w.inj, fun j b o' h1 e1 => ?_, w.fr, w.fa, fun b o' e1 => ⟨(upd_ne (ne_of_none e1 (w.fa i a h))).trans (w.fb b o' e1).1, (w.fb b o' e1).2⟩⟩, .lst upd_same (r.mono l)⟩
  · by_cases hba : b = a
    · subst hba
      have q : upd ω.B b (.lst xs) b = some u := q
      rw [upd_same] at q
      cases q
      exact hx
    · have q : upd ω.B a (.lst xs) b = some u := q
      rw [upd_ne hba] at q
      exact w.x b u q
  · by_cases hj : j = i
    · subst hj
      have h1 : ω.α[j]? = some b := h1
      rw [h] at h1
      cases h1
      have hi : j < μ.length := by
        rw [← w.len]
        exact (List.getElem?_eq_some_iff.mp h).1
      rw [List.getElem?_set_self hi] at e1
      cases e1
      exact ⟨_, hx⟩
    · rw [List.getElem?_set_ne (Ne.symm hj)] at e1
      have hne : b ≠ a := fun z => hj (w.inj j i b h1 (by rw [z]; exact h))
      exact (w.at_ j b o' h1 e1).move l rfl fun z => (upd_ne hne).trans z
end
/-! ### a frame's names -/
structure EnvR (ω : Wd) (σ : L2.St) (δ : Env) : Prop where
  len : σ.length = δ.length
  at_ : ∀ (i : Nat) (d : Dt), δ[i]? = some (some d) → ∃ v, σ[i]? = some (some v) ∧ Rp ω v d
section
variable {ω ω' : Wd} {σ : L2.St} {δ : Env} {v : V} {d : Dt}
theorem EnvR.mono0 (h : EnvR ω σ δ) (l : Le0 ω ω') : EnvR ω' σ δ := ⟨h.len, fun i d e => let ⟨v, q, r⟩ := h.at_ i d e; ⟨v, q, r.mono0 l⟩⟩
theorem EnvR.mono (h : EnvR ω σ δ) (l : Le ω ω') : EnvR ω' σ δ := h.mono0 l.to0
theorem EnvR.set (h : EnvR ω σ δ) (i : Nat) (r : Rp ω v d) : EnvR ω (σ.set i (some v)) (δ.set i (some d)) := ⟨by rw [List.length_set, List.length_set]; exact h.len, fun j e q => by
  by_cases hj : i = j
  · subst hj
    have hi : i < δ.length := by
      have := (List.getElem?_eq_some_iff.mp q).1
      rwa [List.length_set] at this
    rw [List.getElem?_set_self hi] at q
    cases q
    exact ⟨v, List.getElem?_set_self (by rw [h.len]; exact hi), r⟩
  · rw [List.getElem?_set_ne hj] at q
    obtain ⟨w, q2, r2⟩ := h.at_ j e q
    exact ⟨w, by rw [List.getElem?_set_ne hj]; exact q2, r2⟩⟩
theorem EnvR.unset (h : EnvR ω σ δ) (i : Nat) : EnvR ω (σ.set i none) (δ.set i none) := ⟨by rw [List.length_set, List.length_set]; exact h.len, fun j e q => by
  by_cases hj : i = j
  · subst hj
    have hi : i < δ.length := by
      have := (List.getElem?_eq_some_iff.mp q).1
      rwa [List.length_set] at this
    rw [List.getElem?_set_self hi] at q
    cases q
  · rw [List.getElem?_set_ne hj] at q
    obtain ⟨w, q2, r2⟩ := h.at_ j e q
    exact ⟨w, by rw [List.getElem?_set_ne hj]; exact q2, r2⟩⟩
def wipeD (δ : Env) : List Nat → Env
  | [] => δ
  | v :: vs => (wipeD δ vs).set v none
theorem EnvR.wipe (h : EnvR ω σ δ) : ∀ vs : List Nat, EnvR ω (wipe σ vs) (wipeD δ vs)
  | [] => h
  | v :: vs => (h.wipe vs).unset v
theorem EnvR.start {vs : List V} {ds : List Dt} (r : RpL ω vs ds) (N : List Str) : EnvR ω (L2.start N vs) (ds.map some ++ List.replicate (N.length - ds.length) none) := by
  refine ⟨?_, fun i d e => ?_⟩
  · unfold L2.start
    rw [List.length_append, List.length_append, List.length_map, List.length_map, List.length_replicate, List.length_replicate, r.len]
  · unfold L2.start
    by_cases hi : i < ds.length
    · rw [List.getElem?_append_left (by rw [List.length_map]; exact hi), List.getElem?_map] at e
      cases q : ds[i]? with
      | none =>
        rw [q] at e
        cases e
      | some d' =>
        rw [q] at e
        cases e
        obtain ⟨v, hv, rv⟩ := r.get q
        exact ⟨v, by rw [List.getElem?_append_left (by rw [List.length_map, r.len]; exact hi), List.getElem?_map, hv]; rfl, rv⟩
    · rw [List.getElem?_append_right (by rw [List.length_map]; omega), List.getElem?_replicate] at e
      split at e <;> cases e
end
/-! ### outcomes -/
inductive R (β : Type) where
  | ok (a : β) (μ : Mem) | ex (n : Nat) (ns : List Str) (es : List Dt) (μ : Mem) | no
def R.bind {β γ : Type} (r : R β) (f : β → Mem → R γ) : R γ := match r with
  | .ok a μ => f a μ
  | .ex n ns es μ => .ex n ns es μ
  | .no => .no
inductive O where
  | nx (δ : Env) (μ : Mem) | rt (d : Dt) (μ : Mem) | bk (δ : Env) (μ : Mem) | ct (δ : Env) (μ : Mem) | ex (n : Nat) (ns : List Str) (es : List Dt) (δ : Env) (μ : Mem) | no
def R.thn {β : Type} (r : R β) (δ : Env) (f : β → Mem → O) : O := match r with
  | .ok a μ => f a μ
  | .ex n ns es μ => .ex n ns es δ μ
  | .no => .no
abbrev MX := Env → Mem → R Dt
abbrev MA := Env → Mem → R (List Dt)
abbrev MT := Env → Mem → R Bool
abbrev MS := Env → Mem → O
/-- the dict of an error -/
def RX (ω : Wd) (d : Option Addr) (ns : List Str) (es : List Dt) : Prop := (d = none ∧ ns = [] ∧ es = []) ∨ ∃ (dd : Addr) (vs : List V), d = some dd ∧ ω.B dd = some (.xd (ns.zip vs)) ∧ RpL ω vs es
section
variable {β γ δ' : Type}
def GoE (rel : Wd → γ → β → Prop) (W : WX) (ω : Wd) (σ : L2.St) (r : R β) (Q : γ → Hp → Prop) : Prop := match r with
  | .ok d μ' => ∀ v ω' H', Le ω ω' → WR ω' μ' H' → rel ω' v d → Q v H'
  | .ex n ns es μ' => ∀ dd ω' H', Le ω ω' → WR ω' μ' H' → RX ω' dd ns es → W (.ref (ω.Γ.c n)) dd σ H'
  | .no => False
def GoS (W : WX) (ω : Wd) (o : O) (D : Ends) : Prop := match o with
  | .nx δ' μ' => ∀ σ' ω' H', Le ω ω' → WR ω' μ' H' → EnvR ω' σ' δ' → D.nx σ' H'
  | .rt d μ' => ∀ v ω' H', Le ω ω' → WR ω' μ' H' → Rp ω' v d → D.rt v H'
  | .bk δ' μ' => ∀ σ' ω' H', Le ω ω' → WR ω' μ' H' → EnvR ω' σ' δ' → D.bk σ' H'
  | .ct δ' μ' => ∀ σ' ω' H', Le ω ω' → WR ω' μ' H' → EnvR ω' σ' δ' → D.ct σ' H'
  | .ex n ns es δ' μ' => ∀ dd σ' ω' H', Le ω ω' → WR ω' μ' H' → EnvR ω' σ' δ' → RX ω' dd ns es → W (.ref (ω.Γ.c n)) dd σ' H'
  | .no => False
variable {rel : Wd → γ → β → Prop} {W : WX} {ω ω1 : Wd} {σ : L2.St} {r : R β} {Q : γ → Hp → Prop} {o : O} {D : Ends}
theorem GoE.mono (h : GoE rel W ω σ r Q) (l : Le ω ω1) : GoE rel W ω1 σ r Q := by
  cases r with
  | ok d μ => exact fun v ω' H' l' => h v ω' H' (l.trans l')
  | ex n ns es μ => exact fun dd ω' H' l' w x => l.g ▸ h dd ω' H' (l.trans l') w x
  | no => exact h
theorem GoS.mono (h : GoS W ω o D) (l : Le ω ω1) : GoS W ω1 o D := by
  cases o with
  | nx δ' μ' => exact fun σ' ω' H' l' => h σ' ω' H' (l.trans l')
  | rt d μ' => exact fun v ω' H' l' => h v ω' H' (l.trans l')
  | bk δ' μ' => exact fun σ' ω' H' l' => h σ' ω' H' (l.trans l')
  | ct δ' μ' => exact fun σ' ω' H' l' => h σ' ω' H' (l.trans l')
  | ex n ns es δ' μ' => exact fun dd σ' ω' H' l' w e x => l.g ▸ h dd σ' ω' H' (l.trans l') w e x
  | no => exact h
/-- one part first, then the rest -/
theorem GoE.split {ρ ζ : Type} {rel2 : Wd → ρ → ζ → Prop} {f : β → Mem → R ζ} {Q' : ρ → Hp → Prop} (h : GoE rel2 W ω σ (r.bind f) Q') (k : ∀ b μ1 v ω1 H1, Le ω ω1 → WR ω1 μ1 H1 → rel ω1 v b → GoE rel2 W ω1 σ (f b μ1) Q' → Q v H1) : GoE rel W ω σ r Q := by
  cases r with
  | ok d μ => exact fun v ω' H' l w q => k d μ v ω' H' l w q (GoE.mono h l)
  | ex n ns es μ => exact h
  | no => exact h
theorem GoE.splitS {f : β → Mem → O} {δ : Env} (he : EnvR ω σ δ) (h : GoS W ω (r.thn δ f) D) (k : ∀ b μ1 v ω1 H1, Le ω ω1 → WR ω1 μ1 H1 → rel ω1 v b → GoS W ω1 (f b μ1) D → Q v H1) : GoE rel W ω σ r Q := by
  cases r with
  | ok d μ => exact fun v ω' H' l w q => k d μ v ω' H' l w q (GoS.mono h l)
  | ex n ns es μ => exact fun dd ω' H' l w q => h dd σ ω' H' l w (he.mono l) q
  | no => exact h
/-- a reading that follows a function -/
def rd (rel : Wd → γ → β → Prop) (Γ : Gm) (W : WX) (m : Env → Mem → R β) : L2.St → Hp → (γ → Hp → Prop) → Prop := fun σ H Q => ∃ ω δ μ, ω.Γ = Γ ∧ EnvR ω σ δ ∧ WR ω μ H ∧ GoE rel W ω σ (m δ μ) Q
end
abbrev rdE (Γ : Gm) (W : WX) (m : MX) : TE := rd Rp Γ W m
abbrev rdA (Γ : Gm) (W : WX) (m : MA) : TA := rd RpL Γ W m
abbrev rdT (Γ : Gm) (W : WX) (m : MT) : TT := rd (fun _ (k b : Bool) => k = b) Γ W m
def rdS (Γ : Gm) (W : WX) (m : MS) : TS := fun D σ H => ∃ ω δ μ, ω.Γ = Γ ∧ EnvR ω σ δ ∧ WR ω μ H ∧ GoS W ω (m δ μ) D
theorem PEw {X : Cx} {e : Expr} {t t' : TE} (h : PE X e t) (k : ∀ σ H Q, t' σ H Q → t σ H Q) : PE X e t' := ⟨fun pins s σ H Q I q => h.run pins s σ H Q I (k σ H Q q)⟩
theorem PTw {X : Cx} {e : Expr} {t t' : TT} (h : PT X e t) (k : ∀ σ H Q, t' σ H Q → t σ H Q) : PT X e t' := ⟨fun pins s σ H Q I q => h.run pins s σ H Q I (k σ H Q q)⟩
theorem PWw {X : Cx} {e : Expr} {t t' : TT} (h : PW X e t) (k : ∀ σ H Q, t' σ H Q → t σ H Q) : PW X e t' := ⟨fun wh pins s σ H Q I q => h.run wh pins s σ H Q I (k σ H Q q)⟩
theorem PAw {X : Cx} {e : List Expr} {t t' : TA} (h : PA X e t) (k : ∀ σ H Q, t' σ H Q → t σ H Q) : PA X e t' := ⟨fun pos pins s σ H Q I q => h.run pos pins s σ H Q I (k σ H Q q)⟩
theorem PKw {X : Cx} {e : List Keyword} {t t' : TA} (h : PK X e t) (k : ∀ σ H Q, t' σ H Q → t σ H Q) : PK X e t' := ⟨fun pos pins s σ H Q I q => h.run pos pins s σ H Q I (k σ H Q q)⟩
theorem PSw {X : Cx} {e : Stmt} {t t' : TS} (h : PS X e t) (k : ∀ D σ H, t' D σ H → t D σ H) : PS X e t' := ⟨fun pins s σ H D I q => h.run pins s σ H D I (k D σ H q)⟩
theorem PSsw {X : Cx} {e : List Stmt} {t t' : TS} (h : PSs X e t) (k : ∀ D σ H, t' D σ H → t D σ H) : PSs X e t' := ⟨fun pins s σ H D I q => h.run pins s σ H D I (k D σ H q)⟩
end DM

set_option linter.all false
set_option maxRecDepth 100000
set_option maxHeartbeats 4000000
/-! DM1: the steps as functions, one for each form of expression and statement; how the readings follow them. -/
namespace DM
open PySem PySem.Spec PyProof.Rows L2
section
variable (Γ : Gm) (W : WX)
def EV (t : TE) (m : MX) : Prop := ∀ σ H Q, rdE Γ W m σ H Q → t σ H Q
def AV (t : TA) (m : MA) : Prop := ∀ σ H Q, rdA Γ W m σ H Q → t σ H Q
def TV (t : TT) (m : MT) : Prop := ∀ σ H Q, rdT Γ W m σ H Q → t σ H Q
def SV (t : TS) (m : MS) : Prop := ∀ D σ H, rdS Γ W m D σ H → t D σ H
def OV (t : TO) (m : Env → Mem → R (Option Int)) : Prop := ∀ σ H Q, rd (fun _ (a b : Option Int) => a = b) Γ W m σ H Q → t σ H Q
end
/-! ### the functions -/
def mV (i : Nat) : MX := fun δ μ => match δ[i]? with
  | some (some d) => .ok d μ
  | _ => .no
def mC (d : Dt) : MX := fun _ μ => .ok d μ
def mOp (f : Dt → Dt → Mem → R Dt) (a b : MX) : MX := fun δ μ => (a δ μ).bind fun x μ1 => (b δ μ1).bind fun y μ2 => f x y μ2
def mUn (f : Dt → Mem → R Dt) (a : MX) : MX := fun δ μ => (a δ μ).bind f
def mNil : MA := fun _ μ => .ok [] μ
def mCons (a : MX) (b : MA) : MA := fun δ μ => (a δ μ).bind fun x μ1 => (b δ μ1).bind fun xs μ2 => .ok (x :: xs) μ2
def mLst (a : MA) : MX := fun δ μ => (a δ μ).bind fun ds μ1 => if ds.length ≤ 1000000 then .ok (.lst ds) μ1 else .no
def mTup (a : MA) : MX := fun δ μ => (a δ μ).bind fun ds μ1 => if ds.length ≤ 1000000 then .ok (.tup ds) μ1 else .no
/-- a new list that may change -/
def mNew (a : MA) : MX := fun δ μ => (a δ μ).bind fun ds μ1 => if ds.length ≤ 1000000 then .ok (.ptr μ1.length) (μ1 ++ [.lst ds]) else .no
def mCB (f : List Dt → Mem → R Dt) (a : MA) : MX := fun δ μ => (a δ μ).bind f
/-- what type a built-in method asks -/
def tyM (T : String) (d : Dt) (μ : Mem) : Bool := match d with
  | .str _ => T == "str"
  | .int _ => T == "int"
  | .lst _ => T == "list"
  | .ptr i => match μ[i]? with
    | some (.lst _) => T == "list"
    | some (.dK _) => T == "dict"
    | some (.dT _) => T == "dict"
    | _ => false
  | _ => false
def mBM (T : String) (f : Dt → List Dt → Mem → R Dt) (o : MX) (a : MA) : MX := fun δ μ => (o δ μ).bind fun x μ1 => if tyM T x μ1 = true then (a δ μ1).bind fun ds μ2 => f x ds μ2 else .no
def mTest (a : MX) : MT := fun δ μ => (a δ μ).bind fun x μ1 => match x with
  | .bl k => .ok k μ1
  | _ => .no
def mAnd (a b : MT) : MT := fun δ μ => (a δ μ).bind fun k μ1 => if k = true then b δ μ1 else .ok false μ1
def mOr (a b : MT) : MT := fun δ μ => (a δ μ).bind fun k μ1 => if k = true then .ok true μ1 else b δ μ1
def mNot (a : MT) : MT := fun δ μ => (a δ μ).bind fun k μ1 => .ok (!k) μ1
def mYes : MT := fun _ μ => .ok true μ
def mB (a : MT) : MX := fun δ μ => (a δ μ).bind fun k μ1 => .ok (.bl k) μ1
def mIf (t : MT) (a b : MX) : MX := fun δ μ => (t δ μ).bind fun k μ1 => if k = true then a δ μ1 else b δ μ1
def mChain (f g : Dt → Dt → Mem → R Dt) (a b c : MX) : MX := fun δ μ => (a δ μ).bind fun x μ1 => (b δ μ1).bind fun y μ2 => (f x y μ2).bind fun z μ3 => match z with
  | .bl k => if k = true then (c δ μ3).bind fun u μ4 => (g y u μ4).bind fun r μ5 => match r with
      | .bl l => .ok (.bl l) μ5
      | _ => .no
    else .ok (.bl false) μ3
  | _ => .no
def mSl (f : Dt → Option Int → Option Int → Mem → R Dt) (a : MX) (lo hi : Env → Mem → R (Option Int)) : MX := fun δ μ => (a δ μ).bind fun x μ1 => (lo δ μ1).bind fun l μ2 => (hi δ μ2).bind fun h μ3 => f x l h μ3
def mNoPart : Env → Mem → R (Option Int) := fun _ μ => .ok none μ
def mPart (a : MX) : Env → Mem → R (Option Int) := fun δ μ => (a δ μ).bind fun x μ1 => match x with
  | .int i => .ok (some i) μ1
  | _ => .no
/-- a list of the store that changes no more -/
def freezeR (d : Dt) (μ : Mem) : R Dt := match d with
  | .ptr i => match μ[i]? with
    | some (.lst ds) => .ok (.lst ds) (μ.set i .gone)
    | _ => .no
  | .lst ds => .ok (.lst ds) μ
  | _ => .no
def mFz (a : MX) : MX := fun δ μ => (a δ μ).bind freezeR
/-! statements -/
def sNext : MS := fun δ μ => .nx δ μ
def O.thn (o : O) (u : MS) : O := match o with
  | .nx δ μ => u δ μ
  | o => o
def sSeq (t u : MS) : MS := fun δ μ => (t δ μ).thn u
def sRet (a : MX) : MS := fun δ μ => (a δ μ).thn δ fun d μ1 => .rt d μ1
def sRetN : MS := fun _ μ => .rt .non μ
def sDrop (a : MX) : MS := fun δ μ => (a δ μ).thn δ fun _ μ1 => .nx δ μ1
def sIf (t : MT) (a b : MS) : MS := fun δ μ => (t δ μ).thn δ fun k μ1 => if k = true then a δ μ1 else b δ μ1
/-- targets -/
abbrev MG := Dt → Env → Mem → Option Env
def gSet (i : Nat) : MG := fun d δ _ => some (δ.set i (some d))
def sAsg (a : MX) (g : MG) : MS := fun δ μ => (a δ μ).thn δ fun d μ1 => match g d δ μ1 with
  | some δ' => .nx δ' μ1
  | none => .no
def sBrk : MS := fun δ μ => .bk δ μ
def sCnt : MS := fun δ μ => .ct δ μ
section
variable {Γ : Gm} {W : WX}
theorem ev_v (i : Nat) : EV Γ W (tVar i) (mV i) := fun σ H Q ⟨ω, δ, μ, hg, he, hw, h⟩ => by
  unfold mV at h
  split at h
  · rename_i d e
    obtain ⟨v, q, r⟩ := he.at_ i d e
    exact ⟨v, q, h v ω H (Le.refl ω) hw r⟩
  · exact h.elim
theorem ev_c {v : V} {d : Dt} (r : ∀ ω : Wd, ω.Γ = Γ → Rp ω v d) : EV Γ W (tC v) (mC d) := fun σ H Q ⟨ω, δ, μ, hg, he, hw, h⟩ => h v ω H (Le.refl ω) hw (r ω hg)
theorem ev_non : EV Γ W (tC .non) (mC .non) := ev_c fun _ _ => .non
theorem ev_bl {b : Bool} : EV Γ W (tC (.bl b)) (mC (.bl b)) := ev_c fun _ _ => .bl b
theorem ev_int {b : Int} : EV Γ W (tC (.int b)) (mC (.int b)) := ev_c fun _ _ => .int b
theorem ev_str {b : Str} : EV Γ W (tC (.str b)) (mC (.str b)) := ev_c fun _ _ => .str b
theorem ev_ty {b : String} : EV Γ W (tC (.ty b)) (mC (.ty b)) := ev_c fun _ _ => .ty b
theorem ev_cls {n : Nat} : EV Γ W (tC (.ref (Γ.c n))) (mC (.cls n)) := ev_c fun ω hg => hg ▸ .cls n
variable {ta tb tc : TE} {ma mb mc : MX} {tr ts : TA} {mr : MA} {tt tu : TT} {nt nu : MT}
/-- operations on values -/
def RO (Γ : Gm) (r : R2) (f : Dt → Dt → Mem → R Dt) : Prop := ∀ (W : WX) ω σ μ H x y a b Q, ω.Γ = Γ → WR ω μ H → Rp ω x a → Rp ω y b → GoE Rp W ω σ (f a b μ) Q → r x y H Q
def RU (r : V → Hp → VK → Prop) (f : Dt → Mem → R Dt) : Prop := ∀ (W : WX) ω σ μ H x a Q, WR ω μ H → Rp ω x a → GoE Rp W ω σ (f a μ) Q → r x H Q
def RC (Γ : Gm) (r : List V → Hp → VK → Prop) (f : List Dt → Mem → R Dt) : Prop := ∀ (W : WX) ω σ μ H xs ds Q, ω.Γ = Γ → WR ω μ H → RpL ω xs ds → GoE Rp W ω σ (f ds μ) Q → r xs H Q
def RM (r : V → List V → Hp → VK → Prop) (f : Dt → List Dt → Mem → R Dt) : Prop := ∀ (W : WX) ω σ μ H x a xs ds Q, WR ω μ H → Rp ω x a → RpL ω xs ds → GoE Rp W ω σ (f a ds μ) Q → r x xs H Q
def RSl (r : V → Option Int → Option Int → Hp → VK → Prop) (f : Dt → Option Int → Option Int → Mem → R Dt) : Prop := ∀ (W : WX) ω σ μ H x a lo hi Q, WR ω μ H → Rp ω x a → GoE Rp W ω σ (f a lo hi μ) Q → r x lo hi H Q
theorem ev_op {r : R2} {f : Dt → Dt → Mem → R Dt} (hr : RO Γ r f) (ha : EV Γ W ta ma) (hb : EV Γ W tb mb) : EV Γ W (tOp r ta tb) (mOp f ma mb) := fun σ H Q ⟨ω, δ, μ, hg, he, hw, h⟩ =>
  ha σ H _ ⟨ω, δ, μ, hg, he, hw, h.split fun a μ1 x ω1 H1 l1 w1 r1 h1 => hb σ H1 _ ⟨ω1, δ, μ1, l1.g.trans hg, he.mono l1, w1, h1.split fun b μ2 y ω2 H2 l2 w2 r2 h2 => hr W ω2 σ μ2 H2 x y a b Q (l2.g.trans (l1.g.trans hg)) w2 (r1.mono l2) r2 h2⟩⟩
theorem ev_un {r : V → Hp → VK → Prop} {f : Dt → Mem → R Dt} (hr : RU r f) (ha : EV Γ W ta ma) : EV Γ W (tUn r ta) (mUn f ma) := fun σ H Q ⟨ω, δ, μ, hg, he, hw, h⟩ =>
  ha σ H _ ⟨ω, δ, μ, hg, he, hw, GoE.split (f := f) h fun a μ1 x ω1 H1 l1 w1 r1 h1 => hr W ω1 σ μ1 H1 x a Q w1 r1 h1⟩
theorem av_nil : AV Γ W tNil mNil := fun σ H Q ⟨ω, δ, μ, hg, he, hw, h⟩ => h [] ω H (Le.refl ω) hw .nil
theorem av_cons (ha : EV Γ W ta ma) (hb : AV Γ W tr mr) : AV Γ W (tCons ta tr) (mCons ma mr) := fun σ H Q ⟨ω, δ, μ, hg, he, hw, h⟩ =>
  ha σ H _ ⟨ω, δ, μ, hg, he, hw, h.split fun a μ1 x ω1 H1 l1 w1 r1 h1 => hb σ H1 _ ⟨ω1, δ, μ1, l1.g.trans hg, he.mono l1, w1, h1.split fun b μ2 y ω2 H2 l2 w2 r2 h2 => h2 (x :: y) ω2 H2 (Le.refl ω2) w2 (.cons (r1.mono l2) r2)⟩⟩
theorem ev_lst (hb : AV Γ W tr mr) : EV Γ W (tLst tr) (mLst mr) := fun σ H Q ⟨ω, δ, μ, hg, he, hw, h⟩ =>
  hb σ H _ ⟨ω, δ, μ, hg, he, hw, h.split fun ds μ1 xs ω1 H1 l1 w1 r1 h1 => by
    split at h1
    · rename_i hl
      refine ⟨by rw [r1.len]; exact Nat.le_trans hl (by decide), fun p hp => ?_⟩
      obtain ⟨l2, w2⟩ := w1.newB (u := .lst xs) hp
      exact h1 _ _ _ l2 w2 (.lst upd_same (r1.mono l2))
    · exact h1.elim⟩
theorem ev_tup (hb : AV Γ W tr mr) : EV Γ W (tTup tr) (mTup mr) := fun σ H Q ⟨ω, δ, μ, hg, he, hw, h⟩ =>
  hb σ H _ ⟨ω, δ, μ, hg, he, hw, h.split fun ds μ1 xs ω1 H1 l1 w1 r1 h1 => by
    split at h1
    · rename_i hl
      refine ⟨by rw [r1.len]; exact Nat.le_trans hl (by decide), fun p hp => ?_⟩
      obtain ⟨l2, w2⟩ := w1.newB (u := .tup xs) hp
      exact h1 _ _ _ l2 w2 (.tup upd_same (r1.mono l2))
    · exact h1.elim⟩
theorem ev_new (hb : AV Γ W tr mr) : EV Γ W (tLst tr) (mNew mr) := fun σ H Q ⟨ω, δ, μ, hg, he, hw, h⟩ =>
  hb σ H _ ⟨ω, δ, μ, hg, he, hw, h.split fun ds μ1 xs ω1 H1 l1 w1 r1 h1 => by
    split at h1
    · rename_i hl
      refine ⟨by rw [r1.len]; exact Nat.le_trans hl (by decide), fun p hp => ?_⟩
      have la : Le ω1 { ω1 with α := ω1.α ++ [p] } := ⟨rfl, fun i a h => by
        show (ω1.α ++ [p])[i]? = some a
        rw [List.getElem?_append_left (List.getElem?_eq_some_iff.mp h).1]
        exact h, Same.refl _, rfl⟩
      obtain ⟨l2, w2, e2⟩ := w1.newM (u := .lst xs) (o := .lst ds) hp ⟨w1.x.free hp, xs, upd_same, r1.mono la⟩
      exact h1 _ _ _ l2 w2 (.ptr e2)
    · exact h1.elim⟩
theorem ev_cb {r : List V → Hp → VK → Prop} {f : List Dt → Mem → R Dt} (hr : RC Γ r f) (hb : AV Γ W tr mr) : EV Γ W (tCB r tr) (mCB f mr) := fun σ H Q ⟨ω, δ, μ, hg, he, hw, h⟩ =>
  hb σ H _ ⟨ω, δ, μ, hg, he, hw, GoE.split (f := f) h fun ds μ1 xs ω1 H1 l1 w1 r1 h1 => hr W ω1 σ μ1 H1 xs ds Q (l1.g.trans hg) w1 r1 h1⟩
theorem tyM_ok {K : PySem.W.Frag} {ω : Wd} {μ : Mem} {H : Hp} {T : String} {x : V} {d : Dt} (w : WR ω μ H) (r : Rp ω x d) (h : tyM T d μ = true) : tyV K T x H := by
  cases r with
  | str x => simpa [tyM, tyV] using h
  | int i => simpa [tyM, tyV] using h
  | lst h1 _ => exact .inl ⟨by simpa [tyM] using h, _, .inl (.inl (w.x _ _ h1))⟩
  | ptr h1 =>
    rename_i i a
    unfold tyM at h
    dsimp only at h
    split at h
    · rename_i ds e
      obtain ⟨_, xs, hx, _⟩ := w.at_ i a _ h1 e
      exact .inl ⟨by simpa using h, xs, .inl (.inl hx)⟩
    · rename_i ds e
      obtain ⟨_, xs, hx, _⟩ := w.at_ i a _ h1 e
      exact .inr (.inr (.inl ⟨by simpa using h, .inl ⟨_, hx⟩⟩))
    · rename_i ds e
      obtain ⟨_, xs, hx, _⟩ := w.at_ i a _ h1 e
      exact .inr (.inr (.inl ⟨by simpa using h, .inr ⟨_, hx⟩⟩))
    · cases h
  | _ => simp [tyM] at h
theorem ev_bm {K : PySem.W.Frag} {T : String} {r : V → List V → Hp → VK → Prop} {f : Dt → List Dt → Mem → R Dt} (hr : RM r f) (ha : EV Γ W ta ma) (hb : AV Γ W tr mr) : EV Γ W (tBM K T r ta tr) (mBM T f ma mr) := fun σ H Q ⟨ω, δ, μ, hg, he, hw, h⟩ =>
  ha σ H _ ⟨ω, δ, μ, hg, he, hw, h.split fun a μ1 x ω1 H1 l1 w1 r1 h1 => by
    split at h1
    · rename_i ht
      exact ⟨tyM_ok w1 r1 ht, hb σ H1 _ ⟨ω1, δ, μ1, l1.g.trans hg, he.mono l1, w1, h1.split fun ds μ2 xs ω2 H2 l2 w2 r2 h2 => hr W ω2 σ μ2 H2 x a xs ds Q w2 (r1.mono l2) r2 h2⟩⟩
    · exact h1.elim⟩
theorem ev_bm0 {K : PySem.W.Frag} {T : String} {r : V → List V → Hp → VK → Prop} {f : Dt → List Dt → Mem → R Dt} (hr : RM r f) (ha : EV Γ W ta ma) : EV Γ W (tBM0 K T r ta) (mBM T f ma mNil) := fun σ H Q ⟨ω, δ, μ, hg, he, hw, h⟩ =>
  ha σ H _ ⟨ω, δ, μ, hg, he, hw, h.split fun a μ1 x ω1 H1 l1 w1 r1 h1 => by
    split at h1
    · rename_i ht
      exact ⟨tyM_ok w1 r1 ht, hr W ω1 σ μ1 H1 x a [] [] Q w1 r1 .nil h1⟩
    · exact h1.elim⟩
theorem tv_test (ha : EV Γ W ta ma) : TV Γ W (tTest ta) (mTest ma) := fun σ H Q ⟨ω, δ, μ, hg, he, hw, h⟩ =>
  ha σ H _ ⟨ω, δ, μ, hg, he, hw, h.split fun a μ1 x ω1 H1 l1 w1 r1 h1 => by
    cases r1 with
    | bl k => exact ⟨k, rfl, h1 k ω1 H1 (Le.refl _) w1 rfl⟩
    | _ => exact h1.elim⟩
theorem tv_B (ha : EV Γ W ta ma) : TV Γ W (tB ta) (mTest ma) := fun σ H Q ⟨ω, δ, μ, hg, he, hw, h⟩ =>
  ha σ H _ ⟨ω, δ, μ, hg, he, hw, h.split fun a μ1 x ω1 H1 l1 w1 r1 h1 => by
    cases r1 with
    | bl k => exact ⟨k, rfl, h1 k ω1 H1 (Le.refl _) w1 rfl⟩
    | _ => exact h1.elim⟩
theorem tv_and (ha : TV Γ W tt nt) (hb : TV Γ W tu nu) : TV Γ W (tAnd tt tu) (mAnd nt nu) := fun σ H Q ⟨ω, δ, μ, hg, he, hw, h⟩ =>
  ha σ H _ ⟨ω, δ, μ, hg, he, hw, h.split fun a μ1 x ω1 H1 l1 w1 r1 h1 => by
    subst r1
    cases x with
    | true => exact hb σ H1 Q ⟨ω1, δ, μ1, l1.g.trans hg, he.mono l1, w1, h1⟩
    | false => exact h1 false ω1 H1 (Le.refl _) w1 rfl⟩
theorem tv_or (ha : TV Γ W tt nt) (hb : TV Γ W tu nu) : TV Γ W (tOr tt tu) (mOr nt nu) := fun σ H Q ⟨ω, δ, μ, hg, he, hw, h⟩ =>
  ha σ H _ ⟨ω, δ, μ, hg, he, hw, h.split fun a μ1 x ω1 H1 l1 w1 r1 h1 => by
    subst r1
    cases x with
    | false => exact hb σ H1 Q ⟨ω1, δ, μ1, l1.g.trans hg, he.mono l1, w1, h1⟩
    | true => exact h1 true ω1 H1 (Le.refl _) w1 rfl⟩
theorem tv_not (ha : TV Γ W tt nt) : TV Γ W (tNot tt) (mNot nt) := fun σ H Q ⟨ω, δ, μ, hg, he, hw, h⟩ =>
  ha σ H _ ⟨ω, δ, μ, hg, he, hw, h.split fun a μ1 x ω1 H1 l1 w1 r1 h1 => by
    subst r1
    exact h1 _ ω1 H1 (Le.refl _) w1 rfl⟩
theorem tv_yes : TV Γ W tYes mYes := fun σ H Q ⟨ω, δ, μ, hg, he, hw, h⟩ => h true ω H (Le.refl _) hw rfl
theorem ev_andV (ha : EV Γ W ta ma) (hb : EV Γ W tb mb) : EV Γ W (tAndV ta tb) (mIf (mTest ma) mb (mC (.bl false))) := fun σ H Q ⟨ω, δ, μ, hg, he, hw, h⟩ =>
  ha σ H _ ⟨ω, δ, μ, hg, he, hw, by
    unfold mIf mTest at h
    cases e : ma δ μ with
    | no => rw [e] at h; exact h
    | ex n ns es μ => rw [e] at h; exact h
    | ok d μ1 =>
      rw [e] at h
      intro x ω1 H1 l1 w1 r1
      cases r1 with
      | bl k =>
        refine ⟨k, rfl, ?_⟩
        cases k with
        | true => exact hb σ H1 Q ⟨ω1, δ, μ1, l1.g.trans hg, he.mono l1, w1, GoE.mono (show GoE Rp W ω σ (mb δ μ1) Q from h) l1⟩
        | false => exact h _ ω1 H1 l1 w1 (.bl false)
      | _ => exact h.elim⟩
theorem ev_orV (ha : EV Γ W ta ma) (hb : EV Γ W tb mb) : EV Γ W (tOrV ta tb) (mIf (mTest ma) (mC (.bl true)) mb) := fun σ H Q ⟨ω, δ, μ, hg, he, hw, h⟩ =>
  ha σ H _ ⟨ω, δ, μ, hg, he, hw, by
    unfold mIf mTest at h
    cases e : ma δ μ with
    | no => rw [e] at h; exact h
    | ex n ns es μ => rw [e] at h; exact h
    | ok d μ1 =>
      rw [e] at h
      intro x ω1 H1 l1 w1 r1
      cases r1 with
      | bl k =>
        refine ⟨k, rfl, ?_⟩
        cases k with
        | false => exact hb σ H1 Q ⟨ω1, δ, μ1, l1.g.trans hg, he.mono l1, w1, GoE.mono (show GoE Rp W ω σ (mb δ μ1) Q from h) l1⟩
        | true => exact h _ ω1 H1 l1 w1 (.bl true)
      | _ => exact h.elim⟩
theorem ev_notV (ha : EV Γ W ta ma) : EV Γ W (tNotV ta) (mB (mNot (mTest ma))) := fun σ H Q ⟨ω, δ, μ, hg, he, hw, h⟩ =>
  ha σ H _ ⟨ω, δ, μ, hg, he, hw, by
    unfold mB mNot mTest at h
    cases e : ma δ μ with
    | no => rw [e] at h; exact h
    | ex n ns es μ => rw [e] at h; exact h
    | ok d μ1 =>
      rw [e] at h
      intro x ω1 H1 l1 w1 r1
      cases r1 with
      | bl k => exact ⟨k, rfl, h _ ω1 H1 l1 w1 (.bl _)⟩
      | _ => exact h.elim⟩
theorem ev_if (ht : TV Γ W tt nt) (ha : EV Γ W ta ma) (hb : EV Γ W tb mb) : EV Γ W (tIf tt ta tb) (mIf nt ma mb) := fun σ H Q ⟨ω, δ, μ, hg, he, hw, h⟩ =>
  ht σ H _ ⟨ω, δ, μ, hg, he, hw, h.split fun a μ1 x ω1 H1 l1 w1 r1 h1 => by
    subst r1
    cases x with
    | true => exact ha σ H1 Q ⟨ω1, δ, μ1, l1.g.trans hg, he.mono l1, w1, h1⟩
    | false => exact hb σ H1 Q ⟨ω1, δ, μ1, l1.g.trans hg, he.mono l1, w1, h1⟩⟩
theorem ev_chain {r r' : R2} {f g : Dt → Dt → Mem → R Dt} (hr : RO Γ r f) (hr' : RO Γ r' g) (ha : EV Γ W ta ma) (hb : EV Γ W tb mb) (hc : EV Γ W tc mc) : EV Γ W (tChain r r' ta tb tc) (mChain f g ma mb mc) := fun σ H Q ⟨ω, δ, μ, hg, he, hw, h⟩ =>
  ha σ H _ ⟨ω, δ, μ, hg, he, hw, h.split fun a μ1 x ω1 H1 l1 w1 r1 h1 => hb σ H1 _ ⟨ω1, δ, μ1, l1.g.trans hg, he.mono l1, w1, h1.split fun b μ2 y ω2 H2 l2 w2 r2 h2 =>
    hr W ω2 σ μ2 H2 x y a b _ (l2.g.trans (l1.g.trans hg)) w2 (r1.mono l2) r2 (h2.split fun z μ3 v ω3 H3 l3 w3 r3 h3 => by
      cases r3 with
      | bl k =>
        refine ⟨k, rfl, ?_⟩
        cases k with
        | true =>
          show tc σ H3 _
          have h3' : GoE Rp W ω3 σ ((mc δ μ3).bind fun u μ4 => (g b u μ4).bind fun r μ5 => match r with
            | .bl l => .ok (.bl l) μ5
            | _ => .no) Q := h3
          exact hc σ H3 _ ⟨ω3, δ, μ3, (l3.g.trans l2.g).trans (l1.g.trans hg), ((he.mono l1).mono l2).mono l3, w3, h3'.split fun u μ4 vu ω4 H4 l4 w4 r4 h4 =>
            hr' W ω4 σ μ4 H4 y vu b u _ (l4.g.trans (l3.g.trans (l2.g.trans (l1.g.trans hg)))) w4 ((r2.mono l3).mono l4) r4 (by
              cases e : g b u μ4 with
              | no => rw [e] at h4; exact h4
              | ex n ns es μ => rw [e] at h4; exact h4
              | ok d μ5 =>
                rw [e] at h4
                intro v5 ω5 H5 l5 w5 r5
                cases r5 with
                | bl l => exact h4 _ ω5 H5 l5 w5 (.bl l)
                | _ => exact h4.elim)⟩
        | false => exact h3 _ ω3 H3 (Le.refl _) w3 (.bl false)
      | _ => exact h3.elim)⟩⟩
theorem ov_none : OV Γ W tNoPart mNoPart := fun σ H Q ⟨ω, δ, μ, hg, he, hw, h⟩ => h none ω H (Le.refl _) hw rfl
theorem ov_some (ha : EV Γ W ta ma) : OV Γ W (tPart ta) (mPart ma) := fun σ H Q ⟨ω, δ, μ, hg, he, hw, h⟩ =>
  ha σ H _ ⟨ω, δ, μ, hg, he, hw, h.split fun a μ1 x ω1 H1 l1 w1 r1 h1 => by
    cases r1 with
    | int k => exact ⟨k, rfl, h1 (some k) ω1 H1 (Le.refl _) w1 rfl⟩
    | _ => exact h1.elim⟩
theorem ev_sl {tl th : TO} {nl nh : Env → Mem → R (Option Int)} {r : V → Option Int → Option Int → Hp → VK → Prop} {f : Dt → Option Int → Option Int → Mem → R Dt} (hr : RSl r f) (ha : EV Γ W ta ma) (hl : OV Γ W tl nl) (hh : OV Γ W th nh) : EV Γ W (tSl r ta tl th) (mSl f ma nl nh) := fun σ H Q ⟨ω, δ, μ, hg, he, hw, h⟩ =>
  ha σ H _ ⟨ω, δ, μ, hg, he, hw, h.split fun a μ1 x ω1 H1 l1 w1 r1 h1 => hl σ H1 _ ⟨ω1, δ, μ1, l1.g.trans hg, he.mono l1, w1, h1.split fun lo μ2 vlo ω2 H2 l2 w2 r2 h2 => hh σ H2 _ ⟨ω2, δ, μ2, (l2.g.trans l1.g).trans hg, (he.mono l1).mono l2, w2, h2.split fun hi μ3 vhi ω3 H3 l3 w3 r3 h3 => by
    subst r2 r3
    exact hr W ω3 σ μ3 H3 x a _ _ Q w3 ((r1.mono l2).mono l3) h3⟩⟩⟩
/-- .. then the list changes no more -/
theorem ev_fz (ha : EV Γ W ta ma) : EV Γ W ta (mFz ma) := fun σ H Q ⟨ω, δ, μ, hg, he, hw, h⟩ =>
  ha σ H _ ⟨ω, δ, μ, hg, he, hw, GoE.split (f := freezeR) h fun a μ1 x ω1 H1 l1 w1 r1 h1 => by
    cases r1 with
    | ptr h2 =>
      rename_i i p
      unfold freezeR at h1
      dsimp only at h1
      split at h1
      · rename_i ds e
        obtain ⟨ω2, l2, w2, r2⟩ := w1.freeze h2 e
        exact h1 _ ω2 H1 l2 w2 r2
      · exact h1.elim
    | lst h2 r2 => exact h1 _ ω1 H1 (Le.refl _) w1 (.lst h2 r2)
    | _ => exact h1.elim⟩
/-! ### statements -/
variable {t u : TS} {m n : MS}
theorem sv_next : SV Γ W tNext sNext := fun D σ H ⟨ω, δ, μ, hg, he, hw, h⟩ => h σ ω H (Le.refl _) hw he
theorem sv_seq (h1 : SV Γ W t m) (h2 : SV Γ W u n) : SV Γ W (tSeq t u) (sSeq m n) := fun D σ H ⟨ω, δ, μ, hg, he, hw, h⟩ => h1 _ σ H ⟨ω, δ, μ, hg, he, hw, by
  unfold sSeq at h
  cases e : m δ μ with
  | nx δ' μ' =>
    rw [e] at h
    exact fun σ' ω' H' l w r => h2 D σ' H' ⟨ω', δ', μ', l.g.trans hg, r, w, GoS.mono h l⟩
  | rt d μ' => rw [e] at h; exact h
  | bk δ' μ' => rw [e] at h; exact h
  | ct δ' μ' => rw [e] at h; exact h
  | ex n ns es δ' μ' => rw [e] at h; exact h
  | no => rw [e] at h; exact h⟩
theorem sv_ret (ha : EV Γ W ta ma) : SV Γ W (tRet ta) (sRet ma) := fun D σ H ⟨ω, δ, μ, hg, he, hw, h⟩ =>
  ha σ H _ ⟨ω, δ, μ, hg, he, hw, GoE.splitS (f := fun d μ1 => .rt d μ1) he h fun a μ1 x ω1 H1 l1 w1 r1 h1 => h1 x ω1 H1 (Le.refl _) w1 r1⟩
theorem sv_retN : SV Γ W tRetN sRetN := fun D σ H ⟨ω, δ, μ, hg, he, hw, h⟩ => h .non ω H (Le.refl _) hw .non
theorem sv_drop (ha : EV Γ W ta ma) : SV Γ W (tDrop ta) (sDrop ma) := fun D σ H ⟨ω, δ, μ, hg, he, hw, h⟩ =>
  ha σ H _ ⟨ω, δ, μ, hg, he, hw, GoE.splitS (f := fun _ μ1 => .nx δ μ1) he h fun a μ1 x ω1 H1 l1 w1 r1 h1 => h1 σ ω1 H1 (Le.refl _) w1 (he.mono l1)⟩
theorem sv_if (ht : TV Γ W tt nt) (h1 : SV Γ W t m) (h2 : SV Γ W u n) : SV Γ W (tIfS tt t u) (sIf nt m n) := fun D σ H ⟨ω, δ, μ, hg, he, hw, h⟩ =>
  ht σ H _ ⟨ω, δ, μ, hg, he, hw, GoE.splitS (f := fun k μ1 => if k = true then m δ μ1 else n δ μ1) he h fun a μ1 x ω1 H1 l1 w1 r1 h3 => by
    subst r1
    cases x with
    | true => exact h1 D σ H1 ⟨ω1, δ, μ1, l1.g.trans hg, he.mono l1, w1, h3⟩
    | false => exact h2 D σ H1 ⟨ω1, δ, μ1, l1.g.trans hg, he.mono l1, w1, h3⟩⟩
/-- a target follows -/
def GV (t : TG) (g : MG) : Prop := ∀ ω μ H x a σ δ δ' Q, WR ω μ H → Rp ω x a → EnvR ω σ δ → g a δ μ = some δ' → (∀ σ' ω' H', Le ω ω' → WR ω' μ H' → EnvR ω' σ' δ' → Q σ' H') → t x σ H Q
theorem gv_name {i : Nat} : GV (gName i) (gSet i) := fun ω μ H x a σ δ δ' Q w r e h q => by
  cases h
  exact q _ ω H (Le.refl _) w (e.set i r)
theorem sv_asg {tg : TG} {g : MG} (ha : EV Γ W ta ma) (hg' : GV tg g) : SV Γ W (tAsg ta tg) (sAsg ma g) := fun D σ H ⟨ω, δ, μ, hg, he, hw, h⟩ =>
  ha σ H _ ⟨ω, δ, μ, hg, he, hw, GoE.splitS (f := fun d μ1 => match g d δ μ1 with
    | some δ' => .nx δ' μ1
    | none => .no) he h fun a μ1 x ω1 H1 l1 w1 r1 h1 => by
    cases e : g a δ μ1 with
    | none =>
      rw [e] at h1
      exact h1.elim
    | some δ' =>
      rw [e] at h1
      exact hg' ω1 μ1 H1 x a σ δ δ' _ w1 r1 (he.mono l1) e h1⟩
theorem sv_brk : SV Γ W tBreak sBrk := fun D σ H ⟨ω, δ, μ, hg, he, hw, h⟩ => h σ ω H (Le.refl _) hw he
theorem sv_cnt : SV Γ W tCont sCnt := fun D σ H ⟨ω, δ, μ, hg, he, hw, h⟩ => h σ ω H (Le.refl _) hw he
end
end DM

set_option linter.all false
set_option maxRecDepth 100000
set_option maxHeartbeats 4000000
/-! DM2: loops, comprehensions, what they walk; tuples as targets. -/
namespace DM
open PySem PySem.Spec PyProof.Rows L2
open Classical
/-- what is walked: its items, and a list of the store that must stay meanwhile -/
abbrev Src := List Dt × Option (Nat × MO)
abbrev MI := Env → Mem → R Src
def okG (g : Option (Nat × MO)) (μ : Mem) : Prop := ∀ i o, g = some (i, o) → μ[i]? = some o
@[simp] theorem okG_none (μ : Mem) : okG none μ = True := by simp [okG]
def YI (J : It) (ω : Wd) (s : Src) : Prop := ∀ i ω1 μ1 H1, Le0 ω ω1 → WR ω1 μ1 H1 → okG s.2 μ1 → (s.1.length ≤ i → J.stop i H1) ∧ ∀ d, s.1[i]? = some d → J.go i H1 ∧ ∀ x H2, J.yld i H1 x H2 → ∃ ω2, Le ω1 ω2 ∧ WR ω2 μ1 H2 ∧ Rp ω2 x d
def IV (Γ : Gm) (W : WX) (wi : TI) (m : MI) : Prop := ∀ σ H Q, rd (fun ω J s => YI J ω s) Γ W m σ H Q → wi σ H Q
noncomputable def forL (g : MG) (body : MS) (gd : Option (Nat × MO)) : List Dt → Env → Mem → O
  | [], δ, μ => if okG gd μ then .nx δ μ else .no
  | d :: ds, δ, μ => if okG gd μ then (match g d δ μ with
    | none => .no
    | some δ1 => match body δ1 μ with
      | .nx δ' μ' => forL g body gd ds δ' μ'
      | .ct δ' μ' => forL g body gd ds δ' μ'
      | .bk δ' μ' => .nx δ' μ'
      | .rt d μ' => .rt d μ'
      | .ex n ns es δ' μ' => .ex n ns es δ' μ'
      | .no => .no) else .no
noncomputable def sFor (it : MI) (g : MG) (body : MS) : MS := fun δ μ => (it δ μ).thn δ fun s μ1 => forL g body s.2 s.1 δ μ1
section
variable {Γ : Gm} {W : WX}
theorem sv_for {wi : TI} {mi : MI} {tg : TG} {g : MG} {tb : TS} {body : MS} (hi : IV Γ W wi mi) (hg : GV tg g) (hb : SV Γ W tb body) : SV Γ W (tFor wi tg tb) (sFor mi g body) := fun D σ H ⟨ω, δ, μ, hΓ, he, hw, h⟩ =>
  hi σ H _ ⟨ω, δ, μ, hΓ, he, hw, GoE.splitS (f := fun s μ1 => forL g body s.2 s.1 δ μ1) he h fun s μ1 J ω1 H1 l1 w1 y h1 => by
    obtain ⟨ds, gd⟩ := s
    refine ⟨fun i m σ H => m = ds.length - i ∧ i ≤ ds.length ∧ ∃ ω δ μ, Le ω1 ω ∧ EnvR ω σ δ ∧ WR ω μ H ∧ GoS W ω (forL g body gd (ds.drop i) δ μ) D, ⟨ds.length, rfl, Nat.zero_le _, ω1, δ, μ1, Le.refl _, he.mono l1, w1, h1⟩, ?_⟩
    rintro i m σ H ⟨rfl, hi, ω2, δ2, μ2, l2, e2, w2, h2⟩
    by_cases hlt : i < ds.length
    · have hd : ds[i]? = some ds[i] := List.getElem?_eq_getElem hlt
      rw [List.drop_eq_getElem_cons hlt] at h2
      unfold forL at h2
      split at h2
      · rename_i hok
        obtain ⟨hgo, hyl⟩ := (y i ω2 μ2 H l2.to0 w2 hok).2 _ hd
        refine .inr ⟨hgo, fun σ' H' => ∃ ω δ μ, Le ω1 ω ∧ EnvR ω σ' δ ∧ WR ω μ H' ∧ GoS W ω (forL g body gd (ds.drop (i + 1)) δ μ) D, fun σ' H' z => ⟨ds.length - (i + 1), by omega, rfl, hlt, z⟩, fun x H' hx => ?_⟩
        obtain ⟨ω3, l3, w3, r3⟩ := hyl x H' hx
        split at h2
        · exact h2.elim
        · rename_i δ3 eg
          refine hg ω3 μ2 H' x _ σ δ2 δ3 _ w3 r3 (e2.mono l3) eg fun σ4 ω4 H4 l4 w4 e4 => ?_
          have l14 := (l2.trans l3).trans l4
          refine hb _ σ4 H4 ⟨ω4, δ3, μ2, l14.g.trans (l1.g.trans hΓ), e4, w4, ?_⟩
          have h3 := GoS.mono h2 (l3.trans l4)
          revert h3
          cases body δ3 μ2 with
          | nx δ' μ' => exact fun h3 σ' ω' H' l w e => ⟨ω', δ', μ', l14.trans l, e, w, GoS.mono h3 l⟩
          | ct δ' μ' => exact fun h3 σ' ω' H' l w e => ⟨ω', δ', μ', l14.trans l, e, w, GoS.mono h3 l⟩
          | bk δ' μ' => exact fun h3 => h3
          | rt d μ' => exact fun h3 => h3
          | ex n ns es δ' μ' => exact fun h3 => h3
          | no => exact fun h3 => h3
      · exact h2.elim
    · have ei : i = ds.length := by omega
      subst ei
      rw [List.drop_length] at h2
      unfold forL at h2
      split at h2
      · rename_i hok
        exact .inl ⟨(y _ ω2 μ2 H l2.to0 w2 hok).1 (Nat.le_refl _), h2 σ ω2 H (Le.refl _) w2 e2⟩
      · exact h2.elim⟩
end
/-! ### while -/
def whileL (c : MT) (body : MS) : Nat → Env → Mem → O
  | 0, _, _ => .no
  | n + 1, δ, μ => (c δ μ).thn δ fun k μ1 => if k = true then (match body δ μ1 with
      | .nx δ' μ' => whileL c body n δ' μ'
      | .ct δ' μ' => whileL c body n δ' μ'
      | .bk δ' μ' => .nx δ' μ'
      | .rt d μ' => .rt d μ'
      | .ex n ns es δ' μ' => .ex n ns es δ' μ'
      | .no => .no) else .nx δ μ1
def sWhile (n : Nat) (c : MT) (body : MS) : MS := fun δ μ => whileL c body n δ μ
section
variable {Γ : Gm} {W : WX}
theorem sv_while {n : Nat} {tc : TT} {c : MT} {tb : TS} {body : MS} (hc : TV Γ W tc c) (hb : SV Γ W tb body) : SV Γ W (tWhile tc tb) (sWhile n c body) := fun D σ H ⟨ω, δ, μ, hΓ, he, hw, h⟩ => by
  refine ⟨fun m σ H => ∃ ω' δ μ, Le ω ω' ∧ EnvR ω' σ δ ∧ WR ω' μ H ∧ GoS W ω' (whileL c body m δ μ) D, ⟨n, ω, δ, μ, Le.refl _, he, hw, h⟩, ?_⟩
  rintro m σ H ⟨ω2, δ2, μ2, l2, e2, w2, h2⟩
  cases m with
  | zero => exact h2.elim
  | succ m =>
    unfold whileL at h2
    refine hc σ H _ ⟨ω2, δ2, μ2, l2.g.trans hΓ, e2, w2, GoE.splitS (f := fun k μ1 => if k = true then (match body δ2 μ1 with
      | .nx δ' μ' => whileL c body m δ' μ'
      | .ct δ' μ' => whileL c body m δ' μ'
      | .bk δ' μ' => .nx δ' μ'
      | .rt d μ' => .rt d μ'
      | .ex n ns es δ' μ' => .ex n ns es δ' μ'
      | .no => .no) else .nx δ2 μ1) e2 h2 fun k μ3 x ω3 H3 l3 w3 r3 h3 => ?_⟩
    subst r3
    cases x with
    | false => exact h3 σ ω3 H3 (Le.refl _) w3 (e2.mono l3)
    | true =>
      show ∃ N : L2.St → Hp → Prop, _
      refine ⟨fun σ' H' => ∃ ω' δ μ, Le ω ω' ∧ EnvR ω' σ' δ ∧ WR ω' μ H' ∧ GoS W ω' (whileL c body m δ μ) D, fun σ' H' z => ⟨m, Nat.lt_succ_self _, z⟩, ?_⟩
      refine hb _ σ H3 ⟨ω3, δ2, μ3, l3.g.trans (l2.g.trans hΓ), e2.mono l3, w3, ?_⟩
      have h4 : GoS W ω3 (match body δ2 μ3 with
        | .nx δ' μ' => whileL c body m δ' μ'
        | .ct δ' μ' => whileL c body m δ' μ'
        | .bk δ' μ' => .nx δ' μ'
        | .rt d μ' => .rt d μ'
        | .ex n ns es δ' μ' => .ex n ns es δ' μ'
        | .no => .no) D := h3
      revert h4
      have l23 := l2.trans l3
      cases body δ2 μ3 with
      | nx δ' μ' => exact fun h3 σ' ω' H' l w e => ⟨ω', δ', μ', l23.trans l, e, w, GoS.mono h3 l⟩
      | ct δ' μ' => exact fun h3 σ' ω' H' l w e => ⟨ω', δ', μ', l23.trans l, e, w, GoS.mono h3 l⟩
      | bk δ' μ' => exact fun h3 => h3
      | rt d μ' => exact fun h3 => h3
      | ex n ns es δ' μ' => exact fun h3 => h3
      | no => exact fun h3 => h3
end
/-! ### comprehensions -/
abbrev W0 : WX := fun _ _ _ _ => False
def R.noX {β : Type} (r : R β) : R β := match r with
  | .ex _ _ _ _ => .no
  | r => r
noncomputable def lcL (g : MG) (t : MT) (e : MX) (δ0 : Env) (gd : Option (Nat × MO)) : List Dt → Mem → R (List Dt)
  | [], μ => if okG gd μ then .ok [] μ else .no
  | d :: ds, μ => if okG gd μ then (match g d δ0 μ with
    | none => .no
    | some δ1 => (t δ1 μ).noX.bind fun k μ1 => if k = true then (e δ1 μ1).noX.bind fun y μ2 => (lcL g t e δ0 gd ds μ2).bind fun ys μ3 => .ok (y :: ys) μ3 else lcL g t e δ0 gd ds μ1) else .no
noncomputable def lcR (mi : MI) (g : MG) (t : MT) (e : MX) (vs : List Nat) : MA := fun δ μ => (mi δ μ).bind fun s μ1 => if s.1.length ≤ 1000000 then lcL g t e (wipeD δ vs) s.2 s.1 μ1 else .no
/-- [e for .. in .. if ..], that changes no more -/
noncomputable def mLc (mi : MI) (g : MG) (t : MT) (e : MX) (vs : List Nat) : MX := fun δ μ => (lcR mi g t e vs δ μ).bind fun ds μ1 => .ok (.lst ds) μ1
/-- .., a new list that may change -/
noncomputable def mLcN (mi : MI) (g : MG) (t : MT) (e : MX) (vs : List Nat) : MX := fun δ μ => (lcR mi g t e vs δ μ).bind fun ds μ1 => .ok (.ptr μ1.length) (μ1 ++ [.lst ds])
/-- a target that writes no other slots -/
def GL (t : TG) (vs : List Nat) : Prop := ∀ x σ H Q, t x σ H Q → t x σ H fun σ2 H2 => wipe σ2 vs = wipe σ vs ∧ Q σ2 H2
theorem wipe_set {σ : L2.St} {j : Nat} {o : Option V} : ∀ {vs : List Nat}, j ∈ vs → wipe (σ.set j o) vs = wipe σ vs
  | [], h => by simp at h
  | v :: vs, h => by
    unfold wipe
    by_cases hj : j ∈ vs
    · rw [wipe_set hj]
    · have e : j = v := by
        rcases List.mem_cons.mp h with e | e
        · exact e
        · exact absurd e hj
      subst e
      have comm : ∀ (vs : List Nat), j ∉ vs → wipe (σ.set j o) vs = (wipe σ vs).set j o := by
        intro vs
        induction vs with
        | nil => intro _; rfl
        | cons w ws ih =>
          intro hw
          unfold wipe
          rw [ih (fun z => hw (List.mem_cons_of_mem _ z)), List.set_comm _ _ (fun z => hw (by rw [z]; exact List.mem_cons_self))]
      rw [comm vs hj, List.set_set]
theorem gl_name {i : Nat} {vs : List Nat} (h : i ∈ vs) : GL (gName i) vs := fun x σ H Q q => ⟨wipe_set h, q⟩
theorem wipe_wipe {σ : L2.St} : ∀ (vs : List Nat), wipe (wipe σ vs) vs = wipe σ vs := fun vs => by
  have key : ∀ ws : List Nat, (∀ x ∈ ws, x ∈ vs) → wipe (wipe σ ws) vs = wipe σ vs := by
    intro ws
    induction ws with
    | nil => intro _; rfl
    | cons w ws ih =>
      intro h
      show wipe ((wipe σ ws).set w none) vs = _
      rw [wipe_set (h w List.mem_cons_self), ih fun x hx => h x (List.mem_cons_of_mem _ hx)]
  exact key vs fun _ h => h
section
variable {Γ : Gm} {W : WX}
/-- a list that stands aside is of the store from then on -/
theorem WR.oldM {ω : Wd} {μ : Mem} {H : Hp} {D : Addr} {acc : List V} {ys : List Dt} (w : WR ω μ H) (hn : ∀ (i : Nat) (a : Addr), ω.α[i]? = some a → a ≠ D) (hF : ω.F D = none) (hB : ω.B D = none) (hD : H D = some (.lst acc)) (r : RpL ω acc ys) :
    Le ω { ω with α := ω.α ++ [D] } ∧ WR { ω with α := ω.α ++ [D] } (μ ++ [.lst ys]) H ∧ (ω.α ++ [D])[μ.length]? = some D := by
  have l : Le ω { ω with α := ω.α ++ [D] } := ⟨rfl, fun i a h => by
    show (ω.α ++ [D])[i]? = some a
    rw [List.getElem?_append_left (List.getElem?_eq_some_iff.mp h).1]
    exact h, Same.refl _, rfl⟩
  have at_last : ∀ (i : Nat) (a : Addr), (ω.α ++ [D])[i]? = some a → ω.α[i]? = some a ∨ (i = ω.α.length ∧ a = D) := fun i a q => by
    by_cases hi : i < ω.α.length
    · rw [List.getElem?_append_left hi] at q
      exact .inl q
    · have h2 := (List.getElem?_eq_some_iff.mp q).1
      rw [List.length_append, List.length_singleton] at h2
      have e : i = ω.α.length := by omega
      subst e
      rw [List.getElem?_append_right (Nat.le_refl _), Nat.sub_self] at q
      exact .inr ⟨rfl, by simpa using q.symm⟩
  refine ⟨l, ⟨w.x, by simp [w.len], fun i j a h1 h2 => ?_, fun i a o' h1 e => ?_, w.fr, fun i a h1 => (at_last i a h1).elim (w.fa i a) fun z => by rw [z.2]; exact hF, w.fb⟩, ?_⟩
  · rcases at_last i a h1 with q1 | ⟨q1, e1⟩
    · rcases at_last j a h2 with q2 | ⟨q2, e2⟩
      · exact w.inj i j a q1 q2
      · exact absurd e2 (hn i a q1)
    · rcases at_last j a h2 with q2 | ⟨q2, e2⟩
      · exact absurd e1 (hn j a q2)
      · rw [q1, q2]
  · rcases at_last i a h1 with q1 | ⟨q1, e1⟩
    · have hi : i < μ.length := by
        rw [← w.len]
        exact (List.getElem?_eq_some_iff.mp q1).1
      rw [List.getElem?_append_left hi] at e
      exact (w.at_ i a o' q1 e).move l rfl fun z => z
    · subst e1
      rw [q1, w.len, List.getElem?_append_right (Nat.le_refl _), Nat.sub_self] at e
      cases e
      exact ⟨hB, acc, hD, r.mono l⟩
  · rw [← w.len, List.getElem?_append_right (Nat.le_refl _), Nat.sub_self]
    rfl
theorem GoE.noX {β γ : Type} {rel : Wd → γ → β → Prop} {ω : Wd} {σ : L2.St} {r : R β} {Q : γ → Hp → Prop} {W1 : WX} (h : GoE rel W1 ω σ r.noX Q) : GoE rel W ω σ r Q := by
  cases r with
  | ok d μ => exact h
  | ex n ns es μ => exact h.elim
  | no => exact h
/-- the run of a comprehension; k: what its end gives -/
theorem lc_run {wi : TI} {mi : MI} {tg : TG} {g : MG} {tt : TT} {nt : MT} {te : TE} {me : MX} {vs : List Nat} (hi : IV Γ W wi mi) (hg : GV tg g) (hl : GL tg vs) (ht : TV Γ W0 tt nt) (he' : EV Γ W0 te me) {σ : L2.St} {H : Hp} {Q : VK} {f : List Dt → Mem → R Dt} {ω : Wd} {δ : Env} {μ : Mem} (hΓ : ω.Γ = Γ) (he : EnvR ω σ δ) (hw : WR ω μ H)
    (h : GoE Rp W ω σ ((lcR mi g nt me vs δ μ).bind f) Q)
    (k : ∀ (ω1 : Wd) (μ1 : Mem) (H1 : Hp) (D : Addr) (acc : List V) (ys : List Dt), Le ω { ω1 with F := ω.F } → WR { ω1 with F := ω.F } μ1 H1 → H1 D = some (.lst acc) → ω1.B D = none → (∀ (i : Nat) (a : Addr), ω1.α[i]? = some a → a ≠ D) → ω.F D = none → RpL { ω1 with F := ω.F } acc ys → GoE Rp W ω σ (f ys μ1) Q → Q (.ref D) H1) : tLc wi tg tt te vs σ H Q :=
  hi σ H _ ⟨ω, δ, μ, hΓ, he, hw, by
    unfold lcR at h
    cases e0 : mi δ μ with
    | no => rw [e0] at h; exact h
    | ex n ns es μ => rw [e0] at h; exact h
    | ok s μ1 =>
      rw [e0] at h
      have h : GoE Rp W ω σ (R.bind (if s.1.length ≤ 1000000 then lcL g nt me (wipeD δ vs) s.2 s.1 μ1 else .no) f) Q := h
      split at h
      case isFalse => exact h.elim
      rename_i hlen
      obtain ⟨ds, gd⟩ := s
      intro J ω1 H1 l1 w1 y D hD
      have FD : ω1.F D = none := w1.fr.free hD
      have BD : ω1.B D = none := w1.x.free hD
      have FF : ω1.F = ω.F := l1.f
      refine ⟨fun i m H => m = ds.length - i ∧ i ≤ ds.length ∧ ∃ ω2 μ2 acc done, Le0 ω1 ω2 ∧ ω2.F = upd ω1.F D (.lst acc) ∧ WR ω2 μ2 H ∧ RpL ω2 acc done ∧ done.length ≤ i ∧ GoE Rp W ω σ ((lcL g nt me (wipeD δ vs) gd (ds.drop i) μ2).bind fun ys μ3 => f (done ++ ys) μ3) Q,
        ⟨ds.length, rfl, Nat.zero_le _, { ω1 with F := upd ω1.F D (.lst []) }, μ1, [], [], ⟨rfl, fun _ _ h => h, Same.refl _⟩, rfl, ?_, .nil, Nat.le_refl _, h⟩, ?_⟩
      · refine ⟨same_hid w1.x BD, w1.len, w1.inj, fun i a o h1 e => ?_, same_upd2 w1.fr, fun i a h1 => (upd_ne (w1.fresh hD h1)).trans (w1.fa i a h1), fun a o e => ?_⟩
        · exact (w1.at_ i a o h1 e).move0 ⟨rfl, fun _ _ h => h, Same.refl _⟩ (upd_ne (w1.fresh hD h1)) fun z => z
        · by_cases ha : a = D
          · have e : upd ω1.F D (.lst []) a = some o := e
            rw [ha, upd_same] at e
            cases e
            rw [ha]
            exact ⟨BD, .inl ⟨_, rfl⟩⟩
          · have e : upd ω1.F D (.lst []) a = some o := e
            rw [upd_ne ha] at e
            exact w1.fb a o e
      · rintro i m H ⟨rfl, hi, ω2, μ2, acc, done, l2, f2, w2, r2, hdn, h2⟩
        have F2 : ω2.F D = some (.lst acc) := by rw [f2, upd_same]
        by_cases hlt : i < ds.length
        · have hd : ds[i]? = some ds[i] := List.getElem?_eq_getElem hlt
          rw [List.drop_eq_getElem_cons hlt] at h2
          unfold lcL at h2
          split at h2
          case isFalse => exact h2.elim
          rename_i hok
          obtain ⟨hgo, hyl⟩ := (y i ω2 μ2 H l2 w2 hok).2 _ hd
          refine .inr ⟨hgo, fun H' => ∃ ω2 μ2 acc done, Le0 ω1 ω2 ∧ ω2.F = upd ω1.F D (.lst acc) ∧ WR ω2 μ2 H' ∧ RpL ω2 acc done ∧ done.length ≤ i + 1 ∧ GoE Rp W ω σ ((lcL g nt me (wipeD δ vs) gd (ds.drop (i + 1)) μ2).bind fun ys μ3 => f (done ++ ys) μ3) Q, fun H' z => ⟨ds.length - (i + 1), by omega, rfl, hlt, z⟩, fun x H' hx => ?_⟩
          obtain ⟨ω3, l3, w3, r3⟩ := hyl x H' hx
          have e3 : EnvR ω3 (wipe σ vs) (wipeD δ vs) := (he.mono0 ((l1.to0.trans l2).trans l3.to0)).wipe vs
          cases eg : g ds[i] (wipeD δ vs) μ2 with
          | none => rw [eg] at h2; exact h2.elim
          | some δ1 =>
            rw [eg] at h2
            have h2 : GoE Rp W ω σ (R.bind ((nt δ1 μ2).noX.bind fun k μ1 => if k = true then (me δ1 μ1).noX.bind fun y μ2 => (lcL g nt me (wipeD δ vs) gd (ds.drop (i + 1)) μ2).bind fun ys μ3 => .ok (y :: ys) μ3 else lcL g nt me (wipeD δ vs) gd (ds.drop (i + 1)) μ1) fun ys μ3 => f (done ++ ys) μ3) Q := h2
            have z := hl x (wipe σ vs) H' (fun σ2 H2 => tt σ2 H2 fun b H3 => if b = true then te σ2 H3 fun y H4 => ∃ acc, H4 D = some (.lst acc) ∧ acc.length < sizeLine ∧ (fun H' => ∃ ω2 μ2 acc done, Le0 ω1 ω2 ∧ ω2.F = upd ω1.F D (.lst acc) ∧ WR ω2 μ2 H' ∧ RpL ω2 acc done ∧ done.length ≤ i + 1 ∧ GoE Rp W ω σ ((lcL g nt me (wipeD δ vs) gd (ds.drop (i + 1)) μ2).bind fun ys μ3 => f (done ++ ys) μ3) Q) (upd H4 D (.lst (acc ++ [y]))) else (fun H' => ∃ ω2 μ2 acc done, Le0 ω1 ω2 ∧ ω2.F = upd ω1.F D (.lst acc) ∧ WR ω2 μ2 H' ∧ RpL ω2 acc done ∧ done.length ≤ i + 1 ∧ GoE Rp W ω σ ((lcL g nt me (wipeD δ vs) gd (ds.drop (i + 1)) μ2).bind fun ys μ3 => f (done ++ ys) μ3) Q) H3) ?_
            · rw [wipe_wipe] at z
              exact z
            · refine hg ω3 μ2 H' x _ (wipe σ vs) (wipeD δ vs) δ1 _ w3 r3 e3 eg fun σ4 ω4 H4 l4 w4 e4 => ?_
              have l14 : Le0 ω1 ω4 := (l2.trans l3.to0).trans l4.to0
              have f4 : ω4.F = upd ω1.F D (.lst acc) := (l4.f.trans l3.f).trans f2
              refine ht σ4 H4 _ ⟨ω4, δ1, μ2, l14.g.trans (l1.g.trans hΓ), e4, w4, ?_⟩
              cases en : nt δ1 μ2 with
              | no => rw [en] at h2; exact h2.elim
              | ex n ns es μ => rw [en] at h2; exact h2.elim
              | ok kk μ3 =>
                rw [en] at h2
                intro v ω5 H5 l5 w5 r5
                subst r5
                have l15 := l14.trans l5.to0
                have f5 := l5.f.trans f4
                have r25 : RpL ω5 acc done := r2.mono0 ((l3.to0.trans l4.to0).trans l5.to0)
                cases v with
                | false => exact ⟨ω5, μ3, acc, done, l15, f5, w5, r25, Nat.le_succ_of_le hdn, h2⟩
                | true =>
                  show te σ4 H5 _
                  have h2 : GoE Rp W ω σ (R.bind ((me δ1 μ3).noX.bind fun y μ2 => (lcL g nt me (wipeD δ vs) gd (ds.drop (i + 1)) μ2).bind fun ys μ3 => .ok (y :: ys) μ3) fun ys μ3 => f (done ++ ys) μ3) Q := h2
                  refine he' σ4 H5 _ ⟨ω5, δ1, μ3, l15.g.trans (l1.g.trans hΓ), e4.mono l5, w5, ?_⟩
                  cases em : me δ1 μ3 with
                  | no => rw [em] at h2; exact h2.elim
                  | ex n ns es μ => rw [em] at h2; exact h2.elim
                  | ok yd μ4 =>
                    rw [em] at h2
                    intro yv ω6 H6 l6 w6 r6
                    have f6 : ω6.F = upd ω1.F D (.lst acc) := l6.f.trans f5
                    have F6 : ω6.F D = some (.lst acc) := by rw [f6, upd_same]
                    have B6 : ω6.B D = none := (w6.fb D _ F6).1
                    have ne6 : ∀ {i : Nat} {a : Addr}, ω6.α[i]? = some a → a ≠ D := fun {i a} h z => by
                      have q := w6.fa i a h
                      rw [z, F6] at q
                      cases q
                    have hacc : acc.length ≤ 1000000 := by
                      rw [r2.len]
                      exact Nat.le_trans hdn (Nat.le_trans hi hlen)
                    refine ⟨acc, w6.fr D _ F6, Nat.lt_of_le_of_lt hacc (by decide), { ω6 with F := upd ω1.F D (.lst (acc ++ [yv])) }, μ4, acc ++ [yv], done ++ [yd], l15.trans (l6.to0.trans ⟨rfl, fun _ _ h => h, Same.refl _⟩), rfl, ?_, ?_, by rw [List.length_append, List.length_singleton]; omega, ?_⟩
                    · refine ⟨same_hid w6.x B6, w6.len, w6.inj, fun i a o h1 e => ?_, fun a o e => ?_, fun i a h1 => ?_, fun a o e => ?_⟩
                      · exact (w6.at_ i a o h1 e).move0 ⟨rfl, fun _ _ h => h, Same.refl _⟩ (upd_ne (ne6 h1)) fun z => z
                      · by_cases ha : a = D
                        · have e : upd ω1.F D (.lst (acc ++ [yv])) a = some o := e
                          rw [ha, upd_same] at e
                          cases e
                          rw [ha, upd_same]
                        · have e : upd ω1.F D (.lst (acc ++ [yv])) a = some o := e
                          rw [upd_ne ha] at e ⊢
                          exact w6.fr a o (by rw [f6, upd_ne ha]; exact e)
                      · show upd ω1.F D (.lst (acc ++ [yv])) a = none
                        rw [upd_ne (ne6 h1)]
                        have q := w6.fa i a h1
                        rw [f6, upd_ne (ne6 h1)] at q
                        exact q
                      · by_cases ha : a = D
                        · have e : upd ω1.F D (.lst (acc ++ [yv])) a = some o := e
                          rw [ha, upd_same] at e
                          cases e
                          rw [ha]
                          exact ⟨B6, .inl ⟨_, rfl⟩⟩
                        · have e : upd ω1.F D (.lst (acc ++ [yv])) a = some o := e
                          rw [upd_ne ha] at e
                          exact w6.fb a o (by rw [f6, upd_ne ha]; exact e)
                    · have l67 : Le0 ω6 { ω6 with F := upd ω1.F D (.lst (acc ++ [yv])) } := ⟨rfl, fun _ _ h => h, Same.refl _⟩
                      exact (r25.mono0 (l6.to0.trans l67)).app (.cons (r6.mono0 l67) .nil)
                    · have h2 : GoE Rp W ω σ (R.bind ((lcL g nt me (wipeD δ vs) gd (ds.drop (i + 1)) μ4).bind fun ys μ3 => .ok (yd :: ys) μ3) fun ys μ3 => f (done ++ ys) μ3) Q := h2
                      revert h2
                      cases lcL g nt me (wipeD δ vs) gd (ds.drop (i + 1)) μ4 with
                      | no => exact fun z => z
                      | ex n ns es μ => exact fun z => z
                      | ok ys μ5 =>
                        intro h2
                        show GoE Rp W ω σ (f ((done ++ [yd]) ++ ys) μ5) Q
                        rw [List.append_assoc]
                        exact h2
        · have ei : i = ds.length := by omega
          subst ei
          rw [List.drop_length] at h2
          unfold lcL at h2
          split at h2
          case isFalse => exact h2.elim
          rename_i hok
          have h2 : GoE Rp W ω σ (f (done ++ []) μ2) Q := h2
          rw [List.append_nil] at h2
          have sF : Same ω.F ω2.F := by
            rw [f2, ← FF]
            exact same_upd FD
          have l02 : Le0 ω2 { ω2 with F := ω.F } := ⟨rfl, fun _ _ h => h, Same.refl _⟩
          have l2' := (l1.to0.trans l2).trans l02
          exact .inl ⟨(y _ ω2 μ2 H l2 w2 hok).1 (Nat.le_refl _), k ω2 μ2 H D acc done ⟨l2'.g, l2'.a, l2'.b, rfl⟩ (w2.reF sF) (w2.fr D _ F2) (w2.fb D _ F2).1 (fun i a h z => by
            have q := w2.fa i a h
            rw [z, F2] at q
            cases q) (by rw [← FF]; exact FD) (r2.mono0 l02) h2⟩⟩
theorem ev_lc {wi : TI} {mi : MI} {tg : TG} {g : MG} {tt : TT} {nt : MT} {te : TE} {me : MX} {vs : List Nat} (hi : IV Γ W wi mi) (hg : GV tg g) (hl : GL tg vs) (ht : TV Γ W0 tt nt) (he' : EV Γ W0 te me) : EV Γ W (tLc wi tg tt te vs) (mLc mi g nt me vs) := fun σ H Q ⟨ω, δ, μ, hΓ, he, hw, h⟩ =>
  lc_run (f := fun ds μ1 => .ok (.lst ds) μ1) hi hg hl ht he' hΓ he hw h fun ω1 μ1 H1 D acc ys l w hD hB hn hF r h1 => by
    have l2 : Le { ω1 with F := ω.F } { ω1 with F := ω.F, B := upd ω1.B D (.lst acc) } := ⟨rfl, fun _ _ h => h, same_upd hB, rfl⟩
    refine h1 _ _ _ (l.trans l2) ⟨fun b u q => ?_, w.len, w.inj, fun i a o h1 e => (w.at_ i a o h1 e).move l2 rfl fun z => (upd_ne (hn i a h1)).trans z, w.fr, w.fa, fun a o e => ⟨(upd_ne (ne_of_none e hF)).trans (w.fb a o e).1, (w.fb a o e).2⟩⟩ (.lst upd_same (r.mono l2))
    by_cases hb : b = D
    · have q : upd ω1.B D (.lst acc) b = some u := q
      rw [hb, upd_same] at q
      cases q
      rw [hb]
      exact hD
    · have q : upd ω1.B D (.lst acc) b = some u := q
      rw [upd_ne hb] at q
      exact w.x b u q
theorem ev_lcN {wi : TI} {mi : MI} {tg : TG} {g : MG} {tt : TT} {nt : MT} {te : TE} {me : MX} {vs : List Nat} (hi : IV Γ W wi mi) (hg : GV tg g) (hl : GL tg vs) (ht : TV Γ W0 tt nt) (he' : EV Γ W0 te me) : EV Γ W (tLc wi tg tt te vs) (mLcN mi g nt me vs) := fun σ H Q ⟨ω, δ, μ, hΓ, he, hw, h⟩ =>
  lc_run (f := fun (ds : List Dt) (μ1 : Mem) => R.ok (Dt.ptr μ1.length) (μ1 ++ [MO.lst ds])) hi hg hl ht he' hΓ he hw h fun ω1 μ1 H1 D acc ys l w hD hB hn hF r h1 => by
    obtain ⟨l2, w2, e2⟩ := WR.oldM w hn hF hB hD r
    exact h1 _ _ _ (l.trans l2) w2 (.ptr e2)
end
end DM

set_option linter.all false
set_option maxRecDepth 100000
set_option maxHeartbeats 4000000
/-! DM3: operators, built-ins, methods of texts and lists, what is walked: as functions of data. -/
namespace DM
open PySem PySem.Spec PyProof.Rows L2
open Classical
variable {Γ : Gm}
/-! ### lists, known or of the store -/
def asL (μ : Mem) : Dt → Option (List Dt)
  | .lst ds => some ds
  | .ptr i => match μ[i]? with
    | some (.lst ds) => some ds
    | _ => none
  | _ => none
theorem asL_ok {ω : Wd} {μ : Mem} {H : Hp} {x : V} {d : Dt} {ds : List Dt} (w : WR ω μ H) (r : Rp ω x d) (h : asL μ d = some ds) : ∃ a xs, x = .ref a ∧ H a = some (.lst xs) ∧ RpL ω xs ds := by
  cases r with
  | lst h1 r1 =>
    cases h
    exact ⟨_, _, rfl, w.x _ _ h1, r1⟩
  | ptr h1 =>
    rename_i i a
    unfold asL at h
    dsimp only at h
    split at h
    · rename_i ds' e
      cases h
      obtain ⟨_, xs, hx, r⟩ := w.at_ i a _ h1 e
      exact ⟨_, _, rfl, hx, r⟩
    · cases h
  | _ => cases h
/-- the result goes on -/
theorem GoE.ok {ω : Wd} {W : WX} {σ : L2.St} {d : Dt} {μ : Mem} {Q : VK} {v : V} {H : Hp} (h : GoE Rp W ω σ (.ok d μ) Q) (w : WR ω μ H) (r : Rp ω v d) : Q v H := h v ω H (Le.refl ω) w r
theorem GoE.new {ω : Wd} {W : WX} {σ : L2.St} {ds : List Dt} {μ : Mem} {Q : VK} {xs : List V} {H : Hp} {p : Addr} (h : GoE Rp W ω σ (.ok (.lst ds) μ) Q) (w : WR ω μ H) (r : RpL ω xs ds) (hp : H p = none) : Q (.ref p) (upd H p (.lst xs)) := by
  obtain ⟨l, w2⟩ := w.newB (u := .lst xs) hp
  exact h _ _ _ l w2 (.lst upd_same (r.mono l))
theorem GoE.newT {ω : Wd} {W : WX} {σ : L2.St} {ds : List Dt} {μ : Mem} {Q : VK} {xs : List V} {H : Hp} {p : Addr} (h : GoE Rp W ω σ (.ok (.tup ds) μ) Q) (w : WR ω μ H) (r : RpL ω xs ds) (hp : H p = none) : Q (.ref p) (upd H p (.tup xs)) := by
  obtain ⟨l, w2⟩ := w.newB (u := .tup xs) hp
  exact h _ _ _ l w2 (.tup upd_same (r.mono l))
/-! ### operators -/
def rAddS : R2 := fun x y H Q => ∃ i j, x = .str i ∧ y = .str j ∧ i.length + j.length ≤ sizeLine ∧ Q (.str (i ++ j)) H
def uAdd : R2 := fun x y H Q => rI0 (fun i j => .int (i + j)) x y H Q ∨ (rAddS x y H Q ∨ rCat x y H Q)
theorem uop_add {X : Cx} : OpR X (binaryOp .Add) uAdd := op_add.or ((show OpR X (binaryOp .Add) rAddS from op_add_str).or op_cat)
def oAdd (a b : Dt) (μ : Mem) : R Dt := match a, b with
  | .int i, .int j => .ok (.int (i + j)) μ
  | .str x, .str y => if x.length + y.length ≤ 10000000 then .ok (.str (x ++ y)) μ else .no
  | a, b => match asL μ a, asL μ b with
    | some ds, some es => if ds.length + es.length ≤ 1000000 then .ok (.lst (ds ++ es)) μ else .no
    | _, _ => .no
theorem ro_add : RO Γ uAdd oAdd := fun W ω σ μ H x y a b Q hg w ra rb h => by
  unfold oAdd at h
  split at h
  · cases ra
    cases rb
    exact .inl ⟨_, _, rfl, rfl, h.ok w (.int _)⟩
  · cases ra
    cases rb
    split at h
    · rename_i hl
      exact .inr (.inl ⟨_, _, rfl, rfl, Nat.le_trans hl (by decide), h.ok w (.str _)⟩)
    · exact h.elim
  · split at h
    · rename_i ds es e1 e2
      split at h
      · rename_i hl
        obtain ⟨p, xs, rfl, hx, rx⟩ := asL_ok w ra e1
        obtain ⟨q, ys, rfl, hy, ry⟩ := asL_ok w rb e2
        exact .inr (.inr ⟨_, _, _, _, rfl, rfl, hx, hy, by rw [rx.len, ry.len]; exact Nat.le_trans hl (by decide), fun p hp => h.new w (rx.app ry) hp⟩)
      · exact h.elim
    · exact h.elim
def oInt (f : Int → Int → Dt) (a b : Dt) (μ : Mem) : R Dt := match a, b with
  | .int i, .int j => .ok (f i j) μ
  | _, _ => .no
noncomputable def oIntC (C : Int → Int → Prop) (f : Int → Int → Dt) (a b : Dt) (μ : Mem) : R Dt := match a, b with
  | .int i, .int j => if C i j then .ok (f i j) μ else .no
  | _, _ => .no
theorem ro_int {g : Int → Int → V} {f : Int → Int → Dt} (hr : ∀ (ω : Wd) i j, Rp ω (g i j) (f i j)) : RO Γ (rI0 g) (oInt f) := fun W ω σ μ H x y a b Q hg w ra rb h => by
  unfold oInt at h
  split at h
  · cases ra
    cases rb
    exact ⟨_, _, rfl, rfl, h.ok w (hr ω _ _)⟩
  · exact h.elim
theorem ro_intC {C : Int → Int → Prop} {g : Int → Int → V} {f : Int → Int → Dt} (hr : ∀ (ω : Wd) i j, Rp ω (g i j) (f i j)) : RO Γ (rI C g) (oIntC C f) := fun W ω σ μ H x y a b Q hg w ra rb h => by
  unfold oIntC at h
  split at h
  · split at h
    · rename_i hc
      cases ra
      cases rb
      exact ⟨_, _, rfl, rfl, hc, h.ok w (hr ω _ _)⟩
    · exact h.elim
  · exact h.elim
abbrev oSub := oInt fun i j => .int (i - j)
theorem ro_sub : RO Γ (rI0 fun i j => .int (i - j)) oSub := ro_int fun _ _ _ => .int _
noncomputable abbrev oMod := oIntC (fun _ j => j ≠ 0) fun i j => .int (i.fmod j)
theorem ro_mod : RO Γ (rI (fun _ j => j ≠ 0) fun i j => .int (i.fmod j)) oMod := ro_intC fun _ _ _ => .int _
noncomputable abbrev oFdiv := oIntC CDivN fun i j => .int (i.fdiv j)
theorem ro_fdiv : RO Γ (rI CDivN fun i j => .int (i.fdiv j)) oFdiv := ro_intC fun _ _ _ => .int _
noncomputable abbrev oPow := oIntC CPow fun i j => .int (i ^ j.toNat)
theorem ro_pow : RO Γ (rI CPow fun i j => .int (i ^ j.toNat)) oPow := ro_intC fun _ _ _ => .int _
abbrev oLt := oInt fun i j => .bl (decide (i < j))
theorem ro_lt : RO Γ (rI0 fun i j => .bl (decide (i < j))) oLt := ro_int fun _ _ _ => .bl _
abbrev oLe := oInt fun i j => .bl (decide (i ≤ j))
theorem ro_le : RO Γ (rI0 fun i j => .bl (decide (i ≤ j))) oLe := ro_int fun _ _ _ => .bl _
abbrev oGt := oInt fun i j => .bl (decide (j < i))
theorem ro_gt : RO Γ (rI0 fun i j => .bl (decide (j < i))) oGt := ro_int fun _ _ _ => .bl _
abbrev oGe := oInt fun i j => .bl (decide (j ≤ i))
theorem ro_ge : RO Γ (rI0 fun i j => .bl (decide (j ≤ i))) oGe := ro_int fun _ _ _ => .bl _
def oNeg (a : Dt) (μ : Mem) : R Dt := match a with
  | .int i => .ok (.int (-i)) μ
  | _ => .no
theorem ru_neg : RU (rU fun i => .int (-i)) oNeg := fun W ω σ μ H x a Q w ra h => by
  unfold oNeg at h
  split at h
  · cases ra
    exact ⟨_, rfl, h.ok w (.int _)⟩
  · exact h.elim
/-! a text, again and again -/
def repS (x : Str) (n : Int) : Str := if n < 1 then Str.empty else if (n == 1 || x.length == 0) = true then x else ⟨(List.replicate n.toNat x.cps).foldl (· ++ ·) #[]⟩
def rRepS : R2 := fun x y H Q => ∃ i n, x = .str i ∧ y = .int n ∧ -1000000000 ≤ n ∧ n ≤ 1000000000 ∧ i.length * n.toNat ≤ 10000000 ∧ Q (.str (repS i n)) H
theorem foldl_size (a : Array Nat) : ∀ (k : Nat) (b : Array Nat), ((List.replicate k a).foldl (· ++ ·) b).size = b.size + a.size * k
  | 0, b => rfl
  | k + 1, b => by
    rw [List.replicate_succ, List.foldl_cons, foldl_size a k, Array.size_append, Nat.mul_succ]
    omega
theorem op_repS {X : Cx} : OpR X (binaryOp .Mult) rRepS := by
  intro pins s σ H x y v u Q I rx ry h
  obtain ⟨i, n, rfl, rfl, h1, h2, hl, q⟩ := h
  obtain ⟨t, rfl⟩ := rx
  obtain ⟨t', rfl⟩ := ry
  have hs : ∀ z tk, (∃ t, z = Value.str (repS i n) t) → L2.EP X pins σ Q z { s with toks := tk } := fun z tk ⟨t, e⟩ => ⟨.str (repS i n), H, I.tok _, ⟨t, e⟩, q⟩
  have hi : (i.length : Int) * n ≤ 10000000 ∨ n < 1 := by
    by_cases hn : n < 1
    · exact .inr hn
    · refine .inl ?_
      have : ((i.length * n.toNat : Nat) : Int) ≤ 10000000 := Int.ofNat_le.mpr hl
      rw [Int.natCast_mul, Int.toNat_of_nonneg (by omega)] at this
      exact this
  refine PySem.P.mul_str ?_ (fun hn _ hgt => ?_) (fun hn _ => ?_) ?_
  · rw [decide_eq_false (by omega), decide_eq_false (by omega)]
    rfl
  · rcases hi with hi | hi
    · have hb : (i.length : Int) ≤ 10000000 := by
        have : (i.length : Int) * 1 ≤ (i.length : Int) * n := Int.mul_le_mul_of_nonneg_left (by omega) (by omega)
        omega
      have hdiv : (9223372036 : Int) ≤ (2 ^ 63 - 1) / n := by
        refine Int.le_ediv_of_mul_le (by omega) ?_
        have : 9223372036 * n ≤ 9223372036 * 1000000000 := Int.mul_le_mul_of_nonneg_left h2 (by decide)
        omega
      omega
    · exact hn hi
  · show decide (_ > _) = false
    refine decide_eq_false ?_
    have : (10000000 : Nat) ≤ sizeLine := by decide
    omega
  · unfold repS at hs
    by_cases hn : n < 1
    · rw [if_pos hn] at hs ⊢
      exact ⟨by decide, hs _ _ ⟨_, rfl⟩⟩
    · rw [if_neg hn] at hs ⊢
      by_cases hx : (n == 1 || i.length == 0) = true
      · rw [if_pos hx] at hs ⊢
        exact hs _ s.toks ⟨_, rfl⟩
      · rw [if_neg hx] at hs ⊢
        refine ⟨?_, hs _ _ ⟨_, rfl⟩⟩
        show ((List.replicate n.toNat i.cps).foldl (· ++ ·) #[]).size ≤ sizeLine
        rw [foldl_size]
        exact Nat.le_trans (show (#[] : Array Nat).size + i.cps.size * n.toNat ≤ 10000000 by rw [show (#[] : Array Nat).size = 0 from rfl, Nat.zero_add]; exact hl) (by decide)
def uMul : R2 := fun x y H Q => rI CMulW (fun i j => .int (i * j)) x y H Q ∨ (rRepS x y H Q ∨ rRep x y H Q)
theorem uop_mul {X : Cx} : OpR X (binaryOp .Mult) uMul := op_mulW.or (op_repS.or op_rep)
theorem RpL.reps {ω : Wd} {xs : List V} {ds : List Dt} (r : RpL ω xs ds) : ∀ n, RpL ω (List.replicate n xs).flatten (List.replicate n ds).flatten
  | 0 => .nil
  | n + 1 => by
    rw [List.replicate_succ, List.replicate_succ, List.flatten_cons, List.flatten_cons]
    exact r.app (RpL.reps r n)
noncomputable def oMul (a b : Dt) (μ : Mem) : R Dt := match a, b with
  | .int i, .int j => if CMulW i j then .ok (.int (i * j)) μ else .no
  | .str x, .int n => if -1000000000 ≤ n ∧ n ≤ 1000000000 ∧ x.length * n.toNat ≤ 10000000 then .ok (.str (repS x n)) μ else .no
  | a, .int n => match asL μ a with
    | some ds => if -1000000000 ≤ n ∧ n ≤ 1000000000 ∧ ds.length * n.toNat ≤ 1000000 then .ok (.lst (List.replicate n.toNat ds).flatten) μ else .no
    | none => .no
  | _, _ => .no
theorem ro_mul : RO Γ uMul oMul := fun W ω σ μ H x y a b Q hg w ra rb h => by
  unfold oMul at h
  split at h
  · split at h
    · rename_i hc
      cases ra
      cases rb
      exact .inl ⟨_, _, rfl, rfl, hc, h.ok w (.int _)⟩
    · exact h.elim
  · split at h
    · rename_i hc
      cases ra
      cases rb
      exact .inr (.inl ⟨_, _, rfl, rfl, hc.1, hc.2.1, hc.2.2, h.ok w (.str _)⟩)
    · exact h.elim
  · split at h
    · rename_i ds e1
      split at h
      · rename_i hc
        obtain ⟨p, xs, rfl, hx, rx⟩ := asL_ok w ra e1
        cases rb
        exact .inr (.inr ⟨_, _, _, rfl, rfl, hx, by omega, by omega, by rw [rx.len]; exact Nat.le_trans hc.2.2 (by decide), fun p hp => h.new w (rx.reps _) hp⟩)
      · exact h.elim
    · exact h.elim
  · exact h.elim
/-! ### == -/
def toPs (f : Dt → Option PyData) : List Dt → Option (List PyData)
  | [] => some []
  | d :: ds => match f d, toPs f ds with
    | some a, some b => some (a :: b)
    | _, _ => none
def toPM (μ : Mem) : Nat → Dt → Option PyData
  | _, .non => some .none
  | _, .bl b => some (.bool b)
  | _, .int i => some (.int i)
  | _, .str s => some (.str s)
  | n + 1, .lst l => (toPs (toPM μ n) l).map .list
  | n + 1, .tup l => (toPs (toPM μ n) l).map .tuple
  | n + 1, .ktp l => (toPs (toPM μ n) l).map .tuple
  | n + 1, .ptr i => match μ[i]? with
    | some (.lst l) => (toPs (toPM μ n) l).map .list
    | _ => none
  | _, _ => none
theorem toPs_dp {K : PySem.W.Frag} {ω : Wd} {H : Hp} {f : Dt → Option PyData} {n : Nat} (hf : ∀ d p v, f d = some p → Rp ω v d → Dp K H v p ∧ p.plain = true ∧ p.depth ≤ n) : ∀ {l : List Dt} {ps : List PyData} {vs : List V}, toPs f l = some ps → RpL ω vs l → DpAll K H vs ps ∧ PyData.plainAll ps = true ∧ PyData.depthAll ps ≤ n
  | [], _, _, h, .nil => by
    cases h
    exact ⟨.nil, rfl, Nat.zero_le _⟩
  | d :: l, ps, _, h, .cons r rs => by
    unfold toPs at h
    split at h
    · rename_i a b e1 e2
      cases h
      obtain ⟨h1, h2, h3⟩ := hf d a _ e1 r
      obtain ⟨k1, k2, k3⟩ := toPs_dp hf e2 rs
      refine ⟨.cons h1 k1, by rw [PyData.plainAll, h2, k2]; rfl, ?_⟩
      rw [PyData.depthAll]
      exact Nat.max_le.mpr ⟨h3, k3⟩
    · cases h
theorem toPM_dp {K : PySem.W.Frag} {ω : Wd} {μ : Mem} {H : Hp} (hK : ω.Γ.K = K) (w : WR ω μ H) : ∀ (n : Nat) (d : Dt) (p : PyData) (v : V), toPM μ n d = some p → Rp ω v d → Dp K H v p ∧ p.plain = true ∧ p.depth ≤ n
  | n, .non, p, v, h, r => by
    rw [toPM.eq_def] at h
    cases h
    cases r
    exact ⟨.non, rfl, Nat.zero_le _⟩
  | n, .bl b, p, v, h, r => by
    rw [toPM.eq_def] at h
    cases h
    cases r
    exact ⟨.bl b, rfl, Nat.zero_le _⟩
  | n, .int b, p, v, h, r => by
    rw [toPM.eq_def] at h
    cases h
    cases r
    exact ⟨.int b, rfl, Nat.zero_le _⟩
  | n, .str b, p, v, h, r => by
    rw [toPM.eq_def] at h
    cases h
    cases r
    exact ⟨.str b, rfl, Nat.zero_le _⟩
  | n + 1, .lst l, p, v, h, r => by
    rw [toPM] at h
    obtain ⟨ps, e, rfl⟩ := Option.map_eq_some_iff.mp h
    cases r with
    | lst h1 r1 =>
      obtain ⟨k1, k2, k3⟩ := toPs_dp (fun d p v => toPM_dp hK w n d p v) e r1
      exact ⟨.lst (.inl (.inl (w.x _ _ h1))) k1, by rw [PyData.plain]; exact k2, by rw [PyData.depth]; exact Nat.succ_le_succ k3⟩
  | n + 1, .tup l, p, v, h, r => by
    rw [toPM] at h
    obtain ⟨ps, e, rfl⟩ := Option.map_eq_some_iff.mp h
    cases r with
    | tup h1 r1 =>
      obtain ⟨k1, k2, k3⟩ := toPs_dp (fun d p v => toPM_dp hK w n d p v) e r1
      exact ⟨.tup (.inl (.inl (w.x _ _ h1))) k1, by rw [PyData.plain]; exact k2, by rw [PyData.depth]; exact Nat.succ_le_succ k3⟩
  | n + 1, .ktp l, p, v, h, r => by
    rw [toPM] at h
    obtain ⟨ps, e, rfl⟩ := Option.map_eq_some_iff.mp h
    cases r with
    | ktp h1 r1 =>
      obtain ⟨k1, k2, k3⟩ := toPs_dp (fun d p v => toPM_dp hK w n d p v) e r1
      exact ⟨.tup (.inr (hK ▸ h1)) k1, by rw [PyData.plain]; exact k2, by rw [PyData.depth]; exact Nat.succ_le_succ k3⟩
  | n + 1, .ptr i, p, v, h, r => by
    rw [toPM] at h
    split at h
    · rename_i l e0
      obtain ⟨ps, e, rfl⟩ := Option.map_eq_some_iff.mp h
      cases r with
      | ptr h1 =>
        obtain ⟨_, xs, hx, r1⟩ := w.at_ i _ _ h1 e0
        obtain ⟨k1, k2, k3⟩ := toPs_dp (fun d p v => toPM_dp hK w n d p v) e r1
        exact ⟨.lst (.inl (.inl hx)) k1, by rw [PyData.plain]; exact k2, by rw [PyData.depth]; exact Nat.succ_le_succ k3⟩
    · cases h
  | 0, .lst l, p, v, h, r => by rw [toPM.eq_def] at h; cases h
  | 0, .tup l, p, v, h, r => by rw [toPM.eq_def] at h; cases h
  | 0, .ktp l, p, v, h, r => by rw [toPM.eq_def] at h; cases h
  | 0, .ptr l, p, v, h, r => by rw [toPM.eq_def] at h; cases h
  | _, .scr l, p, v, h, r => by rw [toPM.eq_def] at h; cases h
  | _, .ty l, p, v, h, r => by rw [toPM.eq_def] at h; cases h
  | _, .cls l, p, v, h, r => by rw [toPM.eq_def] at h; cases h
  | _, .exc l _ _, p, v, h, r => by rw [toPM.eq_def] at h; cases h
def uEq (K : PySem.W.Frag) : R2 := fun x y H Q => ∃ d e : PyData, Dp K H x d ∧ Dp K H y e ∧ d.plain = true ∧ e.plain = true ∧ d.depth ≤ 8 ∧ Q (.bl (PyData.eqv d e)) H
def uNe (K : PySem.W.Frag) : R2 := fun x y H Q => ∃ d e : PyData, Dp K H x d ∧ Dp K H y e ∧ d.plain = true ∧ e.plain = true ∧ d.depth ≤ 8 ∧ Q (.bl (!PyData.eqv d e)) H
theorem k_eq {X : Cx} {K : PySem.W.Frag} (hK : X.K = K) (hu : X.A.units + 64 < cLine) : OpR X (compareOp .Eq) (uEq K) := by
  subst hK
  intro pins s σ H x y v u Q I rx ry h
  obtain ⟨d, e, hd, he, kd, ke, hl, q⟩ := h
  obtain ⟨as, r1⟩ := Dp.reads I d x v hd rx
  obtain ⟨bs, r2⟩ := Dp.reads I e y u he ry
  refine PySem.SeqAt.eq_plain r1 r2 kd ke ?_ ⟨.bl _, H, I, rfl, q⟩
  omega
theorem k_ne {X : Cx} {K : PySem.W.Frag} (hK : X.K = K) (hu : X.A.units + 64 < cLine) : OpR X (compareOp .NotEq) (uNe K) := by
  subst hK
  intro pins s σ H x y v u Q I rx ry h
  obtain ⟨d, e, hd, he, kd, ke, hl, q⟩ := h
  obtain ⟨as, r1⟩ := Dp.reads I d x v hd rx
  obtain ⟨bs, r2⟩ := Dp.reads I e y u he ry
  refine PySem.SeqAt.ne_plain r1 r2 kd ke ?_ ⟨.bl _, H, I, rfl, q⟩
  omega
def oEq (a b : Dt) (μ : Mem) : R Dt := match toPM μ 8 a, toPM μ 8 b with
  | some p, some q => .ok (.bl (PyData.eqv p q)) μ
  | _, _ => .no
def oNe (a b : Dt) (μ : Mem) : R Dt := match toPM μ 8 a, toPM μ 8 b with
  | some p, some q => .ok (.bl (!PyData.eqv p q)) μ
  | _, _ => .no
theorem ro_eq : RO Γ (uEq Γ.K) oEq := fun W ω σ μ H x y a b Q hg w ra rb h => by
  unfold oEq at h
  split at h
  · rename_i p q e1 e2
    obtain ⟨h1, h2, h3⟩ := toPM_dp (K := Γ.K) (by rw [hg]) w 8 a p x e1 ra
    obtain ⟨k1, k2, k3⟩ := toPM_dp (K := Γ.K) (by rw [hg]) w 8 b q y e2 rb
    exact ⟨p, q, h1, k1, h2, k2, h3, h.ok w (.bl _)⟩
  · exact h.elim
theorem ro_ne : RO Γ (uNe Γ.K) oNe := fun W ω σ μ H x y a b Q hg w ra rb h => by
  unfold oNe at h
  split at h
  · rename_i p q e1 e2
    obtain ⟨h1, h2, h3⟩ := toPM_dp (K := Γ.K) (by rw [hg]) w 8 a p x e1 ra
    obtain ⟨k1, k2, k3⟩ := toPM_dp (K := Γ.K) (by rw [hg]) w 8 b q y e2 rb
    exact ⟨p, q, h1, k1, h2, k2, h3, h.ok w (.bl _)⟩
  · exact h.elim
/-! ### is None, in -/
def isNon : Dt → Bool
  | .non => true
  | _ => false
theorem Rp.isN {ω : Wd} {v : V} {d : Dt} (h : Rp ω v d) : decide (v = .non) = isNon d := by cases h <;> simp [isNon]
def oIsN (a b : Dt) (μ : Mem) : R Dt := match b with
  | .non => .ok (.bl (isNon a)) μ
  | _ => .no
def oNotN (a b : Dt) (μ : Mem) : R Dt := match b with
  | .non => .ok (.bl (!isNon a)) μ
  | _ => .no
theorem ro_isN : RO Γ (fun x y H Q => y = .non ∧ Q (.bl (decide (x = .non))) H) oIsN := fun W ω σ μ H x y a b Q hg w ra rb h => by
  unfold oIsN at h
  split at h
  · cases rb
    exact ⟨rfl, by rw [ra.isN]; exact h.ok w (.bl _)⟩
  · exact h.elim
theorem ro_notN : RO Γ (fun x y H Q => y = .non ∧ Q (.bl (!decide (x = .non))) H) oNotN := fun W ω σ μ H x y a b Q hg w ra rb h => by
  unfold oNotN at h
  split at h
  · cases rb
    exact ⟨rfl, by rw [ra.isN]; exact h.ok w (.bl _)⟩
  · exact h.elim
def flatD : Dt → Bool
  | .non => true
  | .bl _ => true
  | .int _ => true
  | .str _ => true
  | _ => false
def eqF : Dt → Dt → Bool
  | .non, .non => true
  | .bl a, .bl b => a == b
  | .bl a, .int b => (if a then 1 else 0) == b
  | .int a, .bl b => a == (if b then 1 else 0)
  | .int a, .int b => a == b
  | .str a, .str b => a == b
  | _, _ => false
theorem Rp.flat {ω : Wd} {v : V} {d : Dt} (h : Rp ω v d) : flatD d = true → flatV v = true := by cases h <;> simp [flatD, flatV]
theorem Rp.eqF {ω : Wd} {v u : V} {d e : Dt} (h : Rp ω v d) (k : Rp ω u e) (fd : flatD d = true) (fe : flatD e = true) : eqV v u = DM.eqF d e := by
  cases h <;> cases k <;> first | rfl | (exact absurd fd Bool.false_ne_true) | (exact absurd fe Bool.false_ne_true)
theorem RpL.flat {ω : Wd} : ∀ {vs : List V} {ds : List Dt}, RpL ω vs ds → ds.all flatD = true → vs.all flatV = true
  | _, _, .nil, _ => rfl
  | _, _, .cons a r, h => by
    rw [List.all_cons, Bool.and_eq_true] at h
    rw [List.all_cons, a.flat h.1, r.flat h.2]
    rfl
theorem RpL.inV {ω : Wd} {v : V} {d : Dt} (h : Rp ω v d) (fd : flatD d = true) : ∀ {vs : List V} {ds : List Dt}, RpL ω vs ds → ds.all flatD = true → inV v vs = ds.any fun e => DM.eqF e d
  | _, _, .nil, _ => rfl
  | _, _, .cons a r, k => by
    rw [List.all_cons, Bool.and_eq_true] at k
    have := RpL.inV h fd r k.2
    unfold L2.inV at this ⊢
    rw [List.any_cons, List.any_cons, a.eqF h k.1 fd, this]
def asS (μ : Mem) : Dt → Option (List Dt)
  | .tup ds => some ds
  | d => asL μ d
theorem asS_ok {K : PySem.W.Frag} {ω : Wd} {μ : Mem} {H : Hp} {x : V} {d : Dt} {ds : List Dt} (w : WR ω μ H) (r : Rp ω x d) (h : asS μ d = some ds) : ∃ a xs, x = .ref a ∧ (SqL K H a xs ∨ SqT K H a xs) ∧ RpL ω xs ds := by
  cases r with
  | tup h1 r1 =>
    cases h
    exact ⟨_, _, rfl, .inr (.inl (.inl (w.x _ _ h1))), r1⟩
  | lst h1 r1 =>
    obtain ⟨a, xs, e, hx, r⟩ := asL_ok w (.lst h1 r1) h
    exact ⟨a, xs, e, .inl (.inl (.inl hx)), r⟩
  | ptr h1 =>
    obtain ⟨a, xs, e, hx, r⟩ := asL_ok w (.ptr h1) h
    exact ⟨a, xs, e, .inl (.inl (.inl hx)), r⟩
  | _ => cases h
def rInSg (neg : Bool) : R2 := fun x y H Q => ∃ (c : Nat) (z : Str), x = .str ⟨#[c]⟩ ∧ y = .str z ∧ Q (.bl (if neg then !decide (c ∈ z.cps.toList) else decide (c ∈ z.cps.toList))) H
def uIn (K : PySem.W.Frag) (neg : Bool) : R2 := fun x y H Q => rIn K neg x y H Q ∨ rInSg neg x y H Q
theorem k_in {X : Cx} {K : PySem.W.Frag} (hK : X.K = K) : OpR X (compareOp .In) (uIn K false) := by
  subst hK
  exact op_in_seq.or (show OpR X (compareOp .In) (rInSg false) from op_in_sign)
theorem k_notIn {X : Cx} {K : PySem.W.Frag} (hK : X.K = K) : OpR X (compareOp .NotIn) (uIn K true) := by
  subst hK
  exact op_notIn_seq.or (show OpR X (compareOp .NotIn) (rInSg true) from op_notIn_sign)
def oIn (neg : Bool) (a b : Dt) (μ : Mem) : R Dt := match a, b with
  | .str x, .str z => if x.cps.size = 1 then .ok (.bl (if neg then !decide (x.cps.getD 0 0 ∈ z.cps.toList) else decide (x.cps.getD 0 0 ∈ z.cps.toList))) μ else .no
  | a, b => match asS μ b with
    | some ds => if flatD a = true ∧ ds.all flatD = true then .ok (.bl (if neg then !(ds.any fun e => eqF e a) else ds.any fun e => eqF e a)) μ else .no
    | none => .no
theorem ro_in {K : PySem.W.Frag} {neg : Bool} : RO Γ (uIn K neg) (oIn neg) := fun W ω σ μ H x y a b Q hg w ra rb h => by
  unfold oIn at h
  split at h
  · split at h
    · rename_i x' z hs
      cases ra
      cases rb
      refine .inr ⟨x'.cps.getD 0 0, z, ?_, rfl, h.ok w (.bl _)⟩
      obtain ⟨⟨l⟩⟩ := x'
      match l, hs with
      | [c], _ => rfl
    · exact h.elim
  · split at h
    · rename_i ds e
      split at h
      · rename_i hf
        obtain ⟨p, xs, rfl, hq, r⟩ := asS_ok (K := K) w rb e
        refine .inl ⟨p, xs, rfl, hq, ra.flat hf.1, r.flat hf.2, ?_⟩
        rw [r.inV ra hf.1 hf.2]
        exact h.ok w (.bl _)
      · exact h.elim
    · exact h.elim
/-! ### places and parts -/
theorem RpL.atI {ω : Wd} {vs : List V} {ds : List Dt} {i : Int} {d : Dt} (r : RpL ω vs ds) (h : L2.atI ds i = some d) : ∃ v, L2.atI vs i = some v ∧ Rp ω v d := by
  unfold L2.atI at h ⊢
  rw [r.len]
  cases e : ixN ds.length i with
  | none => rw [e] at h; cases h
  | some j =>
    rw [e] at h
    exact r.get h
theorem scr_ok {ω : Wd} {μ : Mem} {H : Hp} {v : V} {ds : List Dt} (hg : ω.Γ = Γ) (w : WR ω μ H) (r : Rp ω v (.scr ds)) : ∃ a xs, v = .ref a ∧ SqL Γ.K H a xs ∧ RpL ω xs ds := by
  subst hg
  cases r with
  | scr h r =>
    refine ⟨_, _, rfl, ?_, r⟩
    rcases h with ⟨o, h | h⟩ | h
    · exact .inl (.inl (w.x _ _ h))
    · exact .inl (.inr ⟨o, w.x _ _ h⟩)
    · exact .inr h
def oIx (a b : Dt) (μ : Mem) : R Dt := match a, b with
  | .scr ds, .int i => (match L2.atI ds i with
    | some d => .ok d μ
    | none => .no)
  | .str z, .int i => if z.length ≤ 10000000 then (match L2.atI z.cps.toList i with
    | some c => .ok (.str ⟨#[c]⟩) μ
    | none => .no) else .no
  | a, .int i => match asS μ a with
    | some ds => (match L2.atI ds i with
      | some d => .ok d μ
      | none => .no)
    | none => .no
  | _, _ => .no
theorem ro_ix : RO Γ (rIx Γ.K) oIx := fun W ω σ μ H x y a b Q hg w ra rb h => by
  unfold oIx at h
  split at h
  · split at h
    · rename_i d e2
      obtain ⟨p, xs, rfl, hq, r⟩ := scr_ok hg w ra
      cases rb
      obtain ⟨v, hv, rv⟩ := r.atI e2
      exact .inl ⟨_, _, _, v, rfl, rfl, hq, hv, h.ok w rv⟩
    · exact h.elim
  · split at h
    · rename_i hz
      split at h
      · rename_i c e
        cases ra
        cases rb
        exact .inr (.inr ⟨_, _, c, rfl, rfl, Nat.le_trans hz (by decide), e, h.ok w (.str _)⟩)
      · exact h.elim
    · exact h.elim
  · split at h
    · rename_i ds e
      split at h
      · rename_i d e2
        obtain ⟨p, xs, rfl, hq, r⟩ := asS_ok (K := Γ.K) w ra e
        cases rb
        obtain ⟨v, hv, rv⟩ := r.atI e2
        rcases hq with hq | hq
        · exact .inl ⟨_, _, _, v, rfl, rfl, hq, hv, h.ok w rv⟩
        · exact .inr (.inl ⟨_, _, _, v, rfl, rfl, hq, hv, h.ok w rv⟩)
      · exact h.elim
    · exact h.elim
  · exact h.elim
def cutD {α : Type} (xs : List α) (lo hi : Option Int) : List α := (xs.drop (HT.sIx xs.length 0 lo)).take (HT.sIx xs.length xs.length hi - HT.sIx xs.length 0 lo)
theorem RpL.cut {ω : Wd} {vs : List V} {ds : List Dt} {lo hi : Option Int} (r : RpL ω vs ds) : RpL ω (cutV vs lo hi) (cutD ds lo hi) := by
  unfold cutV cutD
  rw [r.len]
  exact (r.drop _).take _
def uSl (K : PySem.W.Frag) : V → Option Int → Option Int → Hp → VK → Prop := fun x lo hi H Q => rSlL K x lo hi H Q ∨ rSlS x lo hi H Q
theorem k_sl {X : Cx} {K : PySem.W.Frag} (hK : X.K = K) : SlR X (uSl K) := by
  subst hK
  exact sl_list.or sl_str
def oSl (a : Dt) (lo hi : Option Int) (μ : Mem) : R Dt := match a with
  | .str z => if z.length ≤ 10000000 then .ok (.str (cutS z lo hi)) μ else .no
  | a => match asL μ a with
    | some ds => .ok (.lst (cutD ds lo hi)) μ
    | none => .no
theorem rs_sl {K : PySem.W.Frag} : RSl (uSl K) oSl := fun W ω σ μ H x a lo hi Q w ra h => by
  unfold oSl at h
  split at h
  · split at h
    · rename_i hz
      cases ra
      exact .inr ⟨_, rfl, Nat.le_trans hz (by decide), h.ok w (.str _)⟩
    · exact h.elim
  · split at h
    · rename_i ds e
      obtain ⟨p, xs, rfl, hx, r⟩ := asL_ok w ra e
      exact .inl ⟨_, _, rfl, .inl (.inl hx), fun p hp => h.new w r.cut hp⟩
    · exact h.elim
end DM

set_option linter.all false
set_option maxRecDepth 100000
set_option maxHeartbeats 4000000
/-! DM4: what is walked, tuples as targets, built-ins and methods, kept errors. -/
namespace DM
open PySem PySem.Spec PyProof.Rows L2
open Classical
/-! ### what is walked -/
def srcL (d : Dt) (μ : Mem) : R Src := match d with
  | .lst ds => .ok (ds, none) μ
  | .ptr i => match μ[i]? with
    | some (.lst ds) => .ok (ds, some (i, .lst ds)) μ
    | _ => .no
  | _ => .no
def miList (a : MX) : MI := fun δ μ => (a δ μ).bind srcL
def srcT (d : Dt) (μ : Mem) : R Src := match d with
  | .tup ds => .ok (ds, none) μ
  | _ => .no
def miTup (a : MX) : MI := fun δ μ => (a δ μ).bind srcT
def signsD (z : Str) : List Dt := z.cps.toList.map fun c => Dt.str ⟨#[c]⟩
def srcS (d : Dt) (μ : Mem) : R Src := match d with
  | .str z => .ok (signsD z, none) μ
  | _ => .no
def miStr (a : MX) : MI := fun δ μ => (a δ μ).bind srcS
def rngD (lo : Int) (n : Nat) : List Dt := (List.range n).map fun (i : Nat) => Dt.int (lo + (i : Int))
def srcR1 (ds : List Dt) (μ : Mem) : R Src := match ds with
  | [.int n] => if -1000000000 ≤ n ∧ n ≤ 1000000000 then .ok (rngD 0 n.toNat, none) μ else .no
  | _ => .no
def miRng1 (a : MA) : MI := fun δ μ => (a δ μ).bind srcR1
def srcR2 (ds : List Dt) (μ : Mem) : R Src := match ds with
  | [.int m, .int n] => if -1000000000 ≤ n ∧ n ≤ 1000000000 ∧ -1000000000 ≤ m ∧ m ≤ 1000000000 then .ok (rngD m (n - m).toNat, none) μ else .no
  | _ => .no
def miRng2 (a : MA) : MI := fun δ μ => (a δ μ).bind srcR2
def zipD (ds es : List Dt) : List Dt := (ds.zip es).map fun p => .tup [p.1, p.2]
def srcZ (ds : List Dt) (μ : Mem) : R Src := match ds with
  | [a, b] => match a, b with
    | .lst ds, .lst es => .ok (zipD ds es, none) μ
    | .lst ds, .ptr i => match μ[i]? with
      | some (.lst es) => .ok (zipD ds es, some (i, .lst es)) μ
      | _ => .no
    | _, _ => .no
  | _ => .no
def miZip (a : MA) : MI := fun δ μ => (a δ μ).bind srcZ
def enumD (ds : List Dt) : List Dt := (List.range ds.length).map fun (i : Nat) => .tup [.int (i : Int), ds.getD i .non]
def srcE (ds : List Dt) (μ : Mem) : R Src := match ds with
  | [.lst ds] => .ok (enumD ds, none) μ
  | _ => .no
def miEnum (a : MA) : MI := fun δ μ => (a δ μ).bind srcE
section
variable {Γ : Gm} {W : WX} {K : PySem.W.Frag} {ta : TE} {ma : MX} {ts : TA} {ms : MA} {ω : Wd} {ds es : List Dt}
theorem yi_list {p : Addr} {gd : Option (Nat × MO)} (h : ∀ ω1 μ1 H1, Le0 ω ω1 → WR ω1 μ1 H1 → okG gd μ1 → ∃ xs, H1 p = some (.lst xs) ∧ RpL ω1 xs ds) : YI (Itl K p) ω (ds, gd) := fun i ω1 μ1 H1 l w g => by
  obtain ⟨xs, hx, r⟩ := h ω1 μ1 H1 l w g
  have h1 : SqL K H1 p xs := .inl (.inl hx)
  refine ⟨fun hi => ⟨xs, h1, by rw [r.len]; exact hi⟩, fun d hd => ?_⟩
  obtain ⟨v, hv, rv⟩ := r.get hd
  refine ⟨⟨xs, v, h1, hv⟩, fun x H2 hy => ?_⟩
  obtain ⟨rfl, hx2⟩ := hy
  have ex := hx2 xs h1
  rw [hv] at ex
  cases ex
  exact ⟨ω1, Le.refl _, w, rv⟩
theorem iv_list (ha : EV Γ W ta ma) : IV Γ W (iList K ta) (miList ma) := fun σ H Q ⟨ω, δ, μ, hg, he, hw, h⟩ =>
  ha σ H _ ⟨ω, δ, μ, hg, he, hw, GoE.split (f := srcL) h fun a μ1 x ω1 H1 l1 w1 r1 h1 => by
    unfold srcL at h1
    cases r1 with
    | lst hb r => exact ⟨_, rfl, ⟨_, .inl (.inl (w1.x _ _ hb))⟩, h1 _ ω1 H1 (Le.refl _) w1 (yi_list fun ω2 μ2 H2 l w g => ⟨_, w.x _ _ (l.b _ _ hb), r.mono0 l⟩)⟩
    | ptr hb =>
      rename_i i p
      dsimp only at h1
      split at h1
      · rename_i ds e
        obtain ⟨_, xs, hx, r⟩ := w1.at_ i p _ hb e
        refine ⟨_, rfl, ⟨_, .inl (.inl hx)⟩, h1 _ ω1 H1 (Le.refl _) w1 (yi_list fun ω2 μ2 H2 l w g => ?_)⟩
        obtain ⟨_, xs2, hx2, r2⟩ := w.at_ i p _ (l.a _ _ hb) (g _ _ rfl)
        exact ⟨xs2, hx2, r2⟩
      · exact h1.elim
    | _ => exact h1.elim⟩
theorem iv_tup (ha : EV Γ W ta ma) : IV Γ W (iTup K ta) (miTup ma) := fun σ H Q ⟨ω, δ, μ, hg, he, hw, h⟩ =>
  ha σ H _ ⟨ω, δ, μ, hg, he, hw, GoE.split (f := srcT) h fun a μ1 x ω1 H1 l1 w1 r1 h1 => by
    unfold srcT at h1
    cases r1 with
    | tup hb r =>
      refine ⟨_, rfl, ⟨_, .inl (.inl (w1.x _ _ hb))⟩, h1 _ ω1 H1 (Le.refl _) w1 fun i ω2 μ2 H2 l w g => ?_⟩
      have h1 : SqT K H2 _ _ := .inl (.inl (w.x _ _ (l.b _ _ hb)))
      have r := r.mono0 l
      refine ⟨fun hi => ⟨_, h1, by rw [r.len]; exact hi⟩, fun d hd => ?_⟩
      obtain ⟨v, hv, rv⟩ := r.get hd
      refine ⟨⟨_, v, h1, hv⟩, fun x H2 hy => ?_⟩
      obtain ⟨rfl, hx2⟩ := hy
      have ex := hx2 _ h1
      rw [hv] at ex
      cases ex
      exact ⟨ω2, Le.refl _, w, rv⟩
    | _ => exact h1.elim⟩
theorem iv_str (ha : EV Γ W ta ma) : IV Γ W (iStr ta) (miStr ma) := fun σ H Q ⟨ω, δ, μ, hg, he, hw, h⟩ =>
  ha σ H _ ⟨ω, δ, μ, hg, he, hw, GoE.split (f := srcS) h fun a μ1 x ω1 H1 l1 w1 r1 h1 => by
    unfold srcS at h1
    cases r1 with
    | str z =>
      refine ⟨z, rfl, h1 _ ω1 H1 (Le.refl _) w1 fun i ω2 μ2 H2 l w g => ⟨fun hi => ?_, fun d hd => ?_⟩⟩
      · show z.cps.size ≤ i
        simpa [signsD] using hi
      · have hd : (signsD z)[i]? = some d := hd
        unfold signsD at hd
        rw [List.getElem?_map] at hd
        cases e : z.cps.toList[i]? with
        | none => rw [e] at hd; cases hd
        | some c =>
          rw [e] at hd
          cases hd
          have hc : z.cps[i]? = some c := by rw [← Array.getElem?_toList]; exact e
          refine ⟨(Array.getElem?_eq_some_iff.mp hc).1, fun x H2' hy => ?_⟩
          obtain ⟨rfl, c', hc', rfl⟩ := hy
          rw [hc] at hc'
          cases hc'
          exact ⟨ω2, Le.refl _, w, .str _⟩
    | _ => exact h1.elim⟩
theorem yi_rng (lo : Int) (n : Nat) : YI (Itr lo n) ω (rngD lo n, none) := fun i ω1 μ1 H1 l w g => ⟨fun hi => by
    show n ≤ i
    simpa [rngD] using hi, fun d hd => by
    have hd : (rngD lo n)[i]? = some d := hd
    unfold rngD at hd
    rw [List.getElem?_map] at hd
    cases e : (List.range n)[i]? with
    | none => rw [e] at hd; cases hd
    | some c =>
      rw [e] at hd
      cases hd
      have hi : i < n := by
        have := (List.getElem?_eq_some_iff.mp e).1
        simpa using this
      have hc : c = i := by
        have := (List.getElem?_eq_some_iff.mp e).2
        simpa using this.symm
      subst hc
      refine ⟨hi, fun x H2' hy => ?_⟩
      obtain ⟨rfl, rfl⟩ := hy
      exact ⟨ω1, Le.refl _, w, .int _⟩⟩
theorem iv_rng1 (ha : AV Γ W ts ms) : IV Γ W (iRng1 ts) (miRng1 ms) := fun σ H Q ⟨ω, δ, μ, hg, he, hw, h⟩ =>
  ha σ H _ ⟨ω, δ, μ, hg, he, hw, GoE.split (f := srcR1) h fun a μ1 x ω1 H1 l1 w1 r1 h1 => by
    unfold srcR1 at h1
    split at h1
    · split at h1
      · rename_i n hn
        obtain ⟨v, rfl, rv⟩ := r1.one
        cases rv
        exact ⟨n, rfl, by omega, by omega, h1 _ ω1 H1 (Le.refl _) w1 (yi_rng 0 n.toNat)⟩
      · exact h1.elim
    · exact h1.elim⟩
theorem iv_rng2 (ha : AV Γ W ts ms) : IV Γ W (iRng2 ts) (miRng2 ms) := fun σ H Q ⟨ω, δ, μ, hg, he, hw, h⟩ =>
  ha σ H _ ⟨ω, δ, μ, hg, he, hw, GoE.split (f := srcR2) h fun a μ1 x ω1 H1 l1 w1 r1 h1 => by
    unfold srcR2 at h1
    split at h1
    · split at h1
      · rename_i m n hn
        obtain ⟨v, u, rfl, rv, ru⟩ := r1.two
        cases rv
        cases ru
        exact ⟨m, n, rfl, ⟨by omega, by omega, by omega, by omega⟩, h1 _ ω1 H1 (Le.refl _) w1 (yi_rng m _)⟩
      · exact h1.elim
    · exact h1.elim⟩
theorem yi_zip {p q : Addr} {gd : Option (Nat × MO)} (h : ∀ ω1 μ1 H1, Le0 ω ω1 → WR ω1 μ1 H1 → okG gd μ1 → ∃ xs ys, H1 p = some (.lst xs) ∧ RpL ω1 xs ds ∧ H1 q = some (.lst ys) ∧ RpL ω1 ys es) : YI (Itz K p q) ω (zipD ds es, gd) := fun i ω1 μ1 H1 l w g => by
  obtain ⟨xs, ys, hx, rx, hy, ry⟩ := h ω1 μ1 H1 l w g
  have h1 : SqL K H1 p xs := .inl (.inl hx)
  have h2 : SqL K H1 q ys := .inl (.inl hy)
  refine ⟨fun hi => ⟨xs, ys, h1, h2, ?_⟩, fun d hd => ?_⟩
  · have hi : (zipD ds es).length ≤ i := hi
    unfold zipD at hi
    rw [List.length_map, List.length_zip] at hi
    rw [rx.len, ry.len]
    omega
  · have hd : (zipD ds es)[i]? = some d := hd
    unfold zipD at hd
    rw [List.getElem?_map] at hd
    obtain ⟨z, hz, rfl⟩ := Option.map_eq_some_iff.mp hd
    obtain ⟨z1, z2⟩ := List.getElem?_zip_eq_some.mp hz
    obtain ⟨v, hv, rv⟩ := rx.get z1
    obtain ⟨u, hu, ru⟩ := ry.get z2
    refine ⟨⟨xs, ys, v, u, h1, h2, hv, hu⟩, fun x H2 hyl => ?_⟩
    obtain ⟨T, x', y', rfl, hT, rfl, q1, q2⟩ := hyl
    have e1 := q1 xs h1
    have e2 := q2 ys h2
    rw [hv] at e1
    rw [hu] at e2
    cases e1
    cases e2
    obtain ⟨l2, w2⟩ := w.newB (u := .tup [v, u]) hT
    exact ⟨_, l2, w2, .tup upd_same (.cons (rv.mono l2) (.cons (ru.mono l2) .nil))⟩
theorem iv_zip (ha : AV Γ W ts ms) : IV Γ W (iZip K ts) (miZip ms) := fun σ H Q ⟨ω, δ, μ, hg, he, hw, h⟩ =>
  ha σ H _ ⟨ω, δ, μ, hg, he, hw, GoE.split (f := srcZ) h fun a μ1 x ω1 H1 l1 w1 r1 h1 => by
    unfold srcZ at h1
    split at h1
    · obtain ⟨v, u, rfl, rv, ru⟩ := r1.two
      split at h1
      · cases rv with
        | lst hb r =>
          cases ru with
          | lst hb2 r2 => exact ⟨_, _, _, _, rfl, .inl (.inl (w1.x _ _ hb)), .inl (.inl (w1.x _ _ hb2)), h1 _ ω1 H1 (Le.refl _) w1 (yi_zip fun ω2 μ2 H2 l w g => ⟨_, _, w.x _ _ (l.b _ _ hb), r.mono0 l, w.x _ _ (l.b _ _ hb2), r2.mono0 l⟩)⟩
      · split at h1
        · rename_i es e
          cases rv with
          | lst hb r =>
            cases ru with
            | ptr hb2 =>
              obtain ⟨_, ys, hy, ry⟩ := w1.at_ _ _ _ hb2 e
              refine ⟨_, _, _, _, rfl, .inl (.inl (w1.x _ _ hb)), .inl (.inl hy), h1 _ ω1 H1 (Le.refl _) w1 (yi_zip fun ω2 μ2 H2 l w g => ?_)⟩
              obtain ⟨_, ys2, hy2, ry2⟩ := w.at_ _ _ _ (l.a _ _ hb2) (g _ _ rfl)
              exact ⟨_, ys2, w.x _ _ (l.b _ _ hb), r.mono0 l, hy2, ry2⟩
        · exact h1.elim
      · exact h1.elim
    · exact h1.elim⟩
theorem iv_enum (ha : AV Γ W ts ms) : IV Γ W (iEnum K ts) (miEnum ms) := fun σ H Q ⟨ω, δ, μ, hg, he, hw, h⟩ =>
  ha σ H _ ⟨ω, δ, μ, hg, he, hw, GoE.split (f := srcE) h fun a μ1 x ω1 H1 l1 w1 r1 h1 => by
    unfold srcE at h1
    split at h1
    · rename_i ds
      obtain ⟨v, rfl, rv⟩ := r1.one
      cases rv with
      | lst hb r =>
        refine ⟨_, _, rfl, .inl (.inl (w1.x _ _ hb)), h1 _ ω1 H1 (Le.refl _) w1 fun i ω2 μ2 H2 l w g => ?_⟩
        have h1 : SqL K H2 _ _ := .inl (.inl (w.x _ _ (l.b _ _ hb)))
        have r := r.mono0 l
        refine ⟨fun hi => ⟨_, h1, by
          have hi : (enumD ds).length ≤ i := hi
          rw [r.len]
          simpa [enumD] using hi⟩, fun d hd => ?_⟩
        have hd : (enumD ds)[i]? = some d := hd
        unfold enumD at hd
        rw [List.getElem?_map] at hd
        obtain ⟨j, hj, rfl⟩ := Option.map_eq_some_iff.mp hd
        obtain ⟨hi, hj⟩ := List.getElem?_eq_some_iff.mp hj
        rw [List.getElem_range] at hj
        subst hj
        rw [List.length_range] at hi
        have hdi : ds[i]? = some (ds.getD i .non) := by
          rw [List.getD_eq_getElem?_getD, List.getElem?_eq_getElem hi]
          rfl
        obtain ⟨v, hv, rv⟩ := r.get hdi
        refine ⟨⟨_, v, h1, hv⟩, fun x H3 hyl => ?_⟩
        obtain ⟨T, x', rfl, hT, rfl, q1⟩ := hyl
        have e1 := q1 _ h1
        rw [hv] at e1
        cases e1
        obtain ⟨l2, w2⟩ := w.newB (u := .tup [.int (i : Nat), v]) hT
        exact ⟨_, l2, w2, .tup upd_same (.cons (.int _) (.cons (rv.mono l2) .nil))⟩
    · exact h1.elim⟩
/-! ### tuples as targets -/
def gsNil : List Dt → Env → Mem → Option Env := fun ds δ _ => match ds with
  | [] => some δ
  | _ => none
def gsCons (g : MG) (gs : List Dt → Env → Mem → Option Env) : List Dt → Env → Mem → Option Env := fun ds δ μ => match ds with
  | d :: ds => (g d δ μ).bind fun δ' => gs ds δ' μ
  | [] => none
def gTupM (n : Nat) (gs : List Dt → Env → Mem → Option Env) : MG := fun d δ μ => match d with
  | .tup ds => if ds.length = n then gs ds δ μ else none
  | _ => none
def gLstM (n : Nat) (gs : List Dt → Env → Mem → Option Env) : MG := fun d δ μ => match asL μ d with
  | some ds => if ds.length = n then gs ds δ μ else none
  | none => none
def GVs (t : TGs) (g : List Dt → Env → Mem → Option Env) : Prop := ∀ ω μ H xs ds σ δ δ' Q, WR ω μ H → RpL ω xs ds → EnvR ω σ δ → g ds δ μ = some δ' → (∀ σ' ω' H', Le ω ω' → WR ω' μ H' → EnvR ω' σ' δ' → Q σ' H') → t xs σ H Q
theorem gvs_nil : GVs gNil gsNil := fun ω μ H xs ds σ δ δ' Q w r e h q => by
  unfold gsNil at h
  split at h
  · cases h
    cases r
    exact ⟨rfl, q _ ω H (Le.refl _) w e⟩
  · cases h
theorem gvs_cons {t : TG} {g : MG} {tr : TGs} {gr : List Dt → Env → Mem → Option Env} (h1 : GV t g) (h2 : GVs tr gr) : GVs (gCons t tr) (gsCons g gr) := fun ω μ H xs ds σ δ δ' Q w r e h q => by
  unfold gsCons at h
  split at h
  · obtain ⟨δ1, e1, e2⟩ := Option.bind_eq_some_iff.mp h
    cases r with
    | cons a rr => exact ⟨_, _, rfl, h1 ω μ H _ _ σ δ δ1 _ w a e e1 fun σ' ω' H' l w' e' => h2 ω' μ H' _ _ σ' δ1 δ' Q w' (rr.mono l) e' e2 fun σ2 ω2 H2 l2 => q σ2 ω2 H2 (l.trans l2)⟩
  · cases h
theorem gv_tup {n : Nat} {t : TGs} {g : List Dt → Env → Mem → Option Env} (h1 : GVs t g) : GV (gTup K n t) (gTupM n g) := fun ω μ H x a σ δ δ' Q w r e h q => by
  unfold gTupM at h
  split at h
  · split at h
    · rename_i ds hl
      cases r with
      | tup hb rr => exact ⟨_, _, rfl, .inl (.inl (w.x _ _ hb)), by rw [rr.len]; exact hl, h1 ω μ H _ _ σ δ δ' Q w rr e h q⟩
    · cases h
  · cases h
theorem gv_unl {n : Nat} {t : TGs} {g : List Dt → Env → Mem → Option Env} (h1 : GVs t g) : GV (gUnl K n t) (gLstM n g) := fun ω μ H x a σ δ δ' Q w r e h q => by
  unfold gLstM at h
  split at h
  · split at h
    · rename_i ds ee hl
      obtain ⟨p, xs, rfl, hx, rr⟩ := asL_ok w r ee
      exact ⟨_, _, rfl, .inl (.inl hx), by rw [rr.len]; exact hl, h1 ω μ H _ _ σ δ δ' Q w rr e h q⟩
    · cases h
  · cases h
def GLs (t : TGs) (vs : List Nat) : Prop := ∀ xs σ H Q, t xs σ H Q → t xs σ H fun σ2 H2 => wipe σ2 vs = wipe σ vs ∧ Q σ2 H2
theorem gls_nil {vs : List Nat} : GLs gNil vs := fun xs σ H Q ⟨h, q⟩ => ⟨h, rfl, q⟩
theorem gls_name {i : Nat} {tr : TGs} {vs : List Nat} (h : i ∈ vs) (h2 : GLs tr vs) : GLs (gCons (gName i) tr) vs := fun xs σ H Q ⟨v, r, e, q⟩ => ⟨v, r, e, by
  have z := h2 r (σ.set i (some v)) H Q q
  rw [wipe_set h] at z
  exact z⟩
theorem gl_tup {n : Nat} {t : TGs} {vs : List Nat} (h : GLs t vs) : GL (gTup K n t) vs := fun x σ H Q ⟨a, xs, e, hq, hl, q⟩ => ⟨a, xs, e, hq, hl, h xs σ H Q q⟩
theorem gl_unl {n : Nat} {t : TGs} {vs : List Nat} (h : GLs t vs) : GL (gUnl K n t) vs := fun x σ H Q ⟨a, xs, e, hq, hl, q⟩ => ⟨a, xs, e, hq, hl, h xs σ H Q q⟩
/-! ### built-ins -/
def rLen (K : PySem.W.Frag) : List V → Hp → VK → Prop := fun xs H Q => ∃ x n, xs = [x] ∧ LenV K x H n ∧ Q (.int n) H
theorem k_len {X : Cx} (hK : X.K = K) : CallR X (.builtin "len") (rLen K) := hK ▸ call_len
def cLen (ds : List Dt) (μ : Mem) : R Dt := match ds with
  | [.scr es] => .ok (.int es.length) μ
  | [.str z] => if z.length ≤ 10000000 then .ok (.int z.length) μ else .no
  | [d] => match asS μ d with
    | some es => .ok (.int es.length) μ
    | none => .no
  | _ => .no
theorem rc_len : RC Γ (rLen Γ.K) cLen := fun W ω σ μ H xs ds Q hg w r h => by
  unfold cLen at h
  split at h
  · obtain ⟨v, rfl, rv⟩ := r.one
    obtain ⟨p, ys, rfl, hq, rr⟩ := scr_ok hg w rv
    exact ⟨_, _, rfl, .inl ⟨_, hq, rr.len.symm⟩, h.ok w (.int _)⟩
  · split at h
    · rename_i z hz
      obtain ⟨v, rfl, rv⟩ := r.one
      cases rv
      exact ⟨_, _, rfl, ⟨Nat.le_trans hz (by decide), rfl⟩, h.ok w (.int _)⟩
    · exact h.elim
  · obtain ⟨v, rfl, rv⟩ := r.one
    split at h
    · rename_i es e
      obtain ⟨p, ys, rfl, hq, rr⟩ := asS_ok (K := Γ.K) w rv e
      rcases hq with hq | hq
      · exact ⟨_, _, rfl, .inl ⟨_, hq, rr.len.symm⟩, h.ok w (.int _)⟩
      · exact ⟨_, _, rfl, .inr ⟨_, hq, rr.len.symm⟩, h.ok w (.int _)⟩
    · exact h.elim
  · exact h.elim
def asB : List Dt → Option (List Bool)
  | [] => some []
  | .bl b :: ds => (asB ds).map (b :: ·)
  | _ => none
theorem asB_eq : ∀ {ds : List Dt} {bs : List Bool}, asB ds = some bs → ds = bs.map Dt.bl
  | [], bs, h => by cases h; rfl
  | d :: ds, bs, h => by
    cases d with
    | bl b =>
      obtain ⟨cs, e, rfl⟩ := Option.map_eq_some_iff.mp (show (asB ds).map (b :: ·) = some bs from h)
      rw [asB_eq e]
      rfl
    | _ => cases h
theorem asB_map (bs : List Bool) : asB (bs.map Dt.bl) = some bs := by
  induction bs with
  | nil => rfl
  | cons b bs ih =>
    show (asB (bs.map Dt.bl)).map (b :: ·) = _
    rw [ih]
    rfl
def cAll (ds : List Dt) (μ : Mem) : R Dt := match ds with
  | [d] => match (asL μ d).bind asB with
    | some bs => .ok (.bl (bs.all id)) μ
    | none => .no
  | _ => .no
def cAny (ds : List Dt) (μ : Mem) : R Dt := match ds with
  | [d] => match (asL μ d).bind asB with
    | some bs => .ok (.bl (bs.any id)) μ
    | none => .no
  | _ => .no
theorem rc_all : RC Γ (rAll K) cAll := fun W ω σ μ H xs ds Q hg w r h => by
  unfold cAll at h
  split at h
  · obtain ⟨v, rfl, rv⟩ := r.one
    split at h
    · rename_i bs e
      obtain ⟨es, e1, e2⟩ := Option.bind_eq_some_iff.mp e
      obtain ⟨p, ys, rfl, hq, rr⟩ := asL_ok w rv e1
      rw [asB_eq e2] at rr
      have := rr.of_bls
      subst this
      exact ⟨_, bs, rfl, .inl (.inl hq), h.ok w (.bl _)⟩
    · exact h.elim
  · exact h.elim
theorem rc_any : RC Γ (rAny K) cAny := fun W ω σ μ H xs ds Q hg w r h => by
  unfold cAny at h
  split at h
  · obtain ⟨v, rfl, rv⟩ := r.one
    split at h
    · rename_i bs e
      obtain ⟨es, e1, e2⟩ := Option.bind_eq_some_iff.mp e
      obtain ⟨p, ys, rfl, hq, rr⟩ := asL_ok w rv e1
      rw [asB_eq e2] at rr
      have := rr.of_bls
      subst this
      exact ⟨_, bs, rfl, .inl (.inl hq), h.ok w (.bl _)⟩
    · exact h.elim
  · exact h.elim
theorem k_all {X : Cx} (hK : X.K = K) (hc : X.calm = true) : CallR X (.builtin "all") (rAll K) := hK ▸ cr_all hc
theorem k_any {X : Cx} (hK : X.K = K) (hc : X.calm = true) : CallR X (.builtin "any") (rAny K) := hK ▸ cr_any hc
def rInt1 : List V → Hp → VK → Prop := fun xs H Q => (∃ i, xs = [.int i] ∧ Q (.int i) H) ∨ ∃ k, xs = [.bl k] ∧ Q (.int (if k then 1 else 0)) H
theorem ucall_int {X : Cx} : CallR X (.type "int") rInt1 := call_int1
def cInt (ds : List Dt) (μ : Mem) : R Dt := match ds with
  | [.int i] => .ok (.int i) μ
  | [.bl k] => .ok (.int (if k then 1 else 0)) μ
  | _ => .no
theorem rc_int : RC Γ rInt1 cInt := fun W ω σ μ H xs ds Q hg w r h => by
  unfold cInt at h
  split at h
  · obtain ⟨v, rfl, rv⟩ := r.one
    cases rv
    exact .inl ⟨_, rfl, h.ok w (.int _)⟩
  · obtain ⟨v, rfl, rv⟩ := r.one
    cases rv
    exact .inr ⟨_, rfl, h.ok w (.int _)⟩
  · exact h.elim
def rStrI : List V → Hp → VK → Prop := fun xs H Q => ∃ i : Int, xs = [.int i] ∧ i.natAbs.log2 < 1920 ∧ Q (.str (toString i)) H
theorem ucall_strI {X : Cx} : CallR X (.type "str") rStrI := call_str_int
def cStrI (ds : List Dt) (μ : Mem) : R Dt := match ds with
  | [.int i] => if i.natAbs.log2 < 1920 then .ok (.str (toString i)) μ else .no
  | _ => .no
theorem rc_strI : RC Γ rStrI cStrI := fun W ω σ μ H xs ds Q hg w r h => by
  unfold cStrI at h
  split at h
  · split at h
    · rename_i i hi
      obtain ⟨v, rfl, rv⟩ := r.one
      cases rv
      exact ⟨_, rfl, hi, h.ok w (.str _)⟩
    · exact h.elim
  · exact h.elim
def rTupOf (K : PySem.W.Frag) : List V → Hp → VK → Prop := fun xs H Q => ∃ p ys, xs = [.ref p] ∧ ((SqL K H p ys ∧ ∀ l, H l = none → Q (.ref l) (upd H l (.tup ys))) ∨ (SqT K H p ys ∧ Q (.ref p) H))
theorem k_tupOf {X : Cx} (hK : X.K = K) : CallR X (.type "tuple") (rTupOf K) := hK ▸ call_tuple_of
def cTup (ds : List Dt) (μ : Mem) : R Dt := match ds with
  | [.tup es] => .ok (.tup es) μ
  | [d] => match asL μ d with
    | some es => .ok (.tup es) μ
    | none => .no
  | _ => .no
theorem rc_tup : RC Γ (rTupOf K) cTup := fun W ω σ μ H xs ds Q hg w r h => by
  unfold cTup at h
  split at h
  · obtain ⟨v, rfl, rv⟩ := r.one
    cases rv with
    | tup hb rr => exact ⟨_, _, rfl, .inr ⟨.inl (.inl (w.x _ _ hb)), h.ok w (.tup hb rr)⟩⟩
  · obtain ⟨v, rfl, rv⟩ := r.one
    split at h
    · rename_i es e
      obtain ⟨p, ys, rfl, hq, rr⟩ := asL_ok w rv e
      exact ⟨_, _, rfl, .inl ⟨.inl (.inl hq), fun l hl => h.newT w rr hl⟩⟩
    · exact h.elim
  · exact h.elim
def rLstOf (K : PySem.W.Frag) : List V → Hp → VK → Prop := fun xs H Q => ∃ p ys, xs = [.ref p] ∧ (SqL K H p ys ∨ SqT K H p ys) ∧ ∀ l, H l = none → Q (.ref l) (upd H l (.lst ys))
theorem k_lstOf {X : Cx} (hK : X.K = K) : CallR X (.type "list") (rLstOf K) := hK ▸ call_list_of
def cLst (ds : List Dt) (μ : Mem) : R Dt := match ds with
  | [d] => match asS μ d with
    | some es => .ok (.lst es) μ
    | none => .no
  | _ => .no
def cLstN (ds : List Dt) (μ : Mem) : R Dt := match ds with
  | [d] => match asS μ d with
    | some es => .ok (.ptr μ.length) (μ ++ [.lst es])
    | none => .no
  | _ => .no
theorem rc_lst : RC Γ (rLstOf K) cLst := fun W ω σ μ H xs ds Q hg w r h => by
  unfold cLst at h
  split at h
  · obtain ⟨v, rfl, rv⟩ := r.one
    split at h
    · rename_i es e
      obtain ⟨p, ys, rfl, hq, rr⟩ := asS_ok (K := K) w rv e
      exact ⟨_, _, rfl, hq, fun l hl => h.new w rr hl⟩
    · exact h.elim
  · exact h.elim
theorem GoE.newM {ω : Wd} {W : WX} {σ : L2.St} {ds : List Dt} {μ : Mem} {Q : VK} {xs : List V} {H : Hp} {p : Addr} (h : GoE Rp W ω σ (.ok (.ptr μ.length) (μ ++ [.lst ds])) Q) (w : WR ω μ H) (r : RpL ω xs ds) (hp : H p = none) : Q (.ref p) (upd H p (.lst xs)) := by
  have la : Le0 ω { ω with α := ω.α ++ [p] } := ⟨rfl, fun i a h => by
    show (ω.α ++ [p])[i]? = some a
    rw [List.getElem?_append_left (List.getElem?_eq_some_iff.mp h).1]
    exact h, Same.refl _⟩
  obtain ⟨l2, w2, e2⟩ := w.newM (u := .lst xs) (o := .lst ds) hp ⟨w.x.free hp, xs, upd_same, r.mono0 la⟩
  exact h _ _ _ l2 w2 (.ptr e2)
theorem rc_lstN : RC Γ (rLstOf K) cLstN := fun W ω σ μ H xs ds Q hg w r h => by
  unfold cLstN at h
  split at h
  · obtain ⟨v, rfl, rv⟩ := r.one
    split at h
    · rename_i es e
      obtain ⟨p, ys, rfl, hq, rr⟩ := asS_ok (K := K) w rv e
      exact ⟨_, _, rfl, hq, fun l hl => h.newM w rr hl⟩
    · exact h.elim
  · exact h.elim
/-- a + b, a new list that may change -/
def oCatN (a b : Dt) (μ : Mem) : R Dt := match asL μ a, asL μ b with
  | some ds, some es => if ds.length + es.length ≤ 1000000 then .ok (.ptr μ.length) (μ ++ [.lst (ds ++ es)]) else .no
  | _, _ => .no
theorem ro_catN : RO Γ uAdd oCatN := fun W ω σ μ H x y a b Q hg w ra rb h => by
  unfold oCatN at h
  split at h
  · rename_i ds es e1 e2
    split at h
    · rename_i hl
      obtain ⟨p, xs, rfl, hx, rx⟩ := asL_ok w ra e1
      obtain ⟨q, ys, rfl, hy, ry⟩ := asL_ok w rb e2
      exact .inr (.inr ⟨_, _, _, _, rfl, rfl, hx, hy, by rw [rx.len, ry.len]; exact Nat.le_trans hl (by decide), fun p hp => h.newM w (rx.app ry) hp⟩)
    · exact h.elim
  · exact h.elim
/-! ### methods of texts and lists -/
def strsD (ys : List Str) : List Dt := ys.map Dt.str
def asT : List Dt → Option (List Str)
  | [] => some []
  | .str b :: ds => (asT ds).map (b :: ·)
  | _ => none
theorem asT_eq : ∀ {ds : List Dt} {bs : List Str}, asT ds = some bs → ds = bs.map Dt.str
  | [], bs, h => by cases h; rfl
  | d :: ds, bs, h => by
    cases d with
    | str b =>
      obtain ⟨cs, e, rfl⟩ := Option.map_eq_some_iff.mp (show (asT ds).map (b :: ·) = some bs from h)
      rw [asT_eq e]
      rfl
    | _ => cases h
theorem asT_map (bs : List Str) : asT (bs.map Dt.str) = some bs := by
  induction bs with
  | nil => rfl
  | cons b bs ih =>
    show (asT (bs.map Dt.str)).map (b :: ·) = _
    rw [ih]
    rfl
def rSplit : V → List V → Hp → VK → Prop := fun x xs H Q => ∃ a b, x = .str a ∧ xs = [.str b] ∧ (b.length == 0) = false ∧ a.length + 2 ≤ sizeLine ∧ rNewStrs (Txt.split a b) H Q
theorem umt_split {X : Cx} : MtR X "str.split" rSplit := mt_split
def bSplit (a : Dt) (ds : List Dt) (μ : Mem) : R Dt := match a, ds with
  | .str x, [.str y] => if (y.length == 0) = false ∧ x.length ≤ 10000000 then .ok (.lst (strsD (Txt.split x y))) μ else .no
  | _, _ => .no
theorem rm_split : RM rSplit bSplit := fun W ω σ μ H x a xs ds Q w ra r h => by
  unfold bSplit at h
  split at h
  · split at h
    · rename_i hc
      cases ra
      obtain ⟨v, rfl, rv⟩ := r.one
      cases rv
      exact ⟨_, _, rfl, rfl, hc.1, Nat.le_trans (Nat.add_le_add_right hc.2 2) (by decide), fun p hp => h.new w (RpL.strs _) hp⟩
    · exact h.elim
  · exact h.elim
def rJoin (K : PySem.W.Frag) : V → List V → Hp → VK → Prop := fun x xs H Q => ∃ a p, ∃ ys : List Str, x = .str a ∧ xs = [.ref p] ∧ (SqL K H p (ys.map V.str) ∨ SqT K H p (ys.map V.str)) ∧
    (ys.map (·.length)).sum + ys.length * a.length ≤ 16777216 ∧ Q (.str (Txt.join a ys)) H
theorem k_join {X : Cx} (hK : X.K = K) : MtR X "str.join" (rJoin K) := hK ▸ mt_join
def bJoin (a : Dt) (ds : List Dt) (μ : Mem) : R Dt := match a, ds with
  | .str x, [d] => match (asS μ d).bind asT with
    | some ys => if (ys.map (·.length)).sum + ys.length * x.length ≤ 16777216 then .ok (.str (Txt.join x ys)) μ else .no
    | none => .no
  | _, _ => .no
theorem rm_join : RM (rJoin K) bJoin := fun W ω σ μ H x a xs ds Q w ra r h => by
  unfold bJoin at h
  split at h
  · split at h
    · rename_i ys e
      split at h
      · rename_i hc
        cases ra
        obtain ⟨v, rfl, rv⟩ := r.one
        obtain ⟨es, e1, e2⟩ := Option.bind_eq_some_iff.mp e
        obtain ⟨p, zs, rfl, hq, rr⟩ := asS_ok (K := K) w rv e1
        rw [asT_eq e2] at rr
        have := rr.of_strs
        subst this
        exact ⟨_, _, ys, rfl, rfl, hq, hc, h.ok w (.str _)⟩
      · exact h.elim
    · exact h.elim
  · exact h.elim
def rStr2 (g : Str → Str → V) : V → List V → Hp → VK → Prop := fun x xs H Q => ∃ a b, x = .str a ∧ xs = [.str b] ∧ Q (g a b) H
theorem umt_count {X : Cx} : MtR X "str.count" (rStr2 fun a b => .int (Txt.count a b)) := mt_count
theorem umt_startswith {X : Cx} : MtR X "str.startswith" (rStr2 fun a b => .bl (Txt.startswith a b)) := mt_startswith
def bStr2 (g : Str → Str → Dt) (a : Dt) (ds : List Dt) (μ : Mem) : R Dt := match a, ds with
  | .str x, [.str y] => .ok (g x y) μ
  | _, _ => .no
theorem rm_str2 {g : Str → Str → V} {f : Str → Str → Dt} (hr : ∀ (ω : Wd) x y, Rp ω (g x y) (f x y)) : RM (rStr2 g) (bStr2 f) := fun W ω σ μ H x a xs ds Q w ra r h => by
  unfold bStr2 at h
  split at h
  · cases ra
    obtain ⟨v, rfl, rv⟩ := r.one
    cases rv
    exact ⟨_, _, rfl, rfl, h.ok w (hr ω _ _)⟩
  · exact h.elim
abbrev bCount := bStr2 fun a b => .int (Txt.count a b)
theorem rm_count : RM (rStr2 fun a b => .int (Txt.count a b)) bCount := rm_str2 fun _ _ _ => .int _
abbrev bStartswith := bStr2 fun a b => .bl (Txt.startswith a b)
theorem rm_startswith : RM (rStr2 fun a b => .bl (Txt.startswith a b)) bStartswith := rm_str2 fun _ _ _ => .bl _
def rLstrip : V → List V → Hp → VK → Prop := fun x xs H Q => ∃ a b, x = .str a ∧ xs = [.str b] ∧ a.length ≤ sizeLine ∧ Q (.str (Txt.lstripChars a b)) H
theorem umt_lstrip {X : Cx} : MtR X "str.lstrip" rLstrip := mt_lstripChars
def bLstrip (a : Dt) (ds : List Dt) (μ : Mem) : R Dt := match a, ds with
  | .str x, [.str y] => if x.length ≤ 10000000 then .ok (.str (Txt.lstripChars x y)) μ else .no
  | _, _ => .no
theorem rm_lstrip : RM rLstrip bLstrip := fun W ω σ μ H x a xs ds Q w ra r h => by
  unfold bLstrip at h
  split at h
  · split at h
    · rename_i hc
      cases ra
      obtain ⟨v, rfl, rv⟩ := r.one
      cases rv
      exact ⟨_, _, rfl, rfl, Nat.le_trans hc (by decide), h.ok w (.str _)⟩
    · exact h.elim
  · exact h.elim
def rRpart : V → List V → Hp → VK → Prop := fun x xs H Q => ∃ a b, x = .str a ∧ xs = [.str b] ∧ (b.length == 0) = false ∧ a.length ≤ sizeLine ∧
    ∀ p, H p = none → Q (.ref p) (upd H p (.tup [.str (Txt.rpartition a b).1, .str (Txt.rpartition a b).2.1, .str (Txt.rpartition a b).2.2]))
theorem umt_rpartition {X : Cx} : MtR X "str.rpartition" rRpart := by
  intro pins s σ H x xs v us Q I rx rs h
  obtain ⟨a, b, rfl, rfl, hb, hz, h⟩ := h
  obtain ⟨t, rfl⟩ := rx
  cases rs with
  | cons r1 rs =>
    cases rs
    obtain ⟨u, rfl⟩ := r1
    refine call_meets F.slot_str_rpartition (typeIs_str _ _ _) F.entry_str_rpartition (F.args_str_rpartition_2 _ _) (meets_str_rpartition a b t u hb hz) ?_
    unfold Txt.rpartition at h
    revert h
    cases Builtin.Str.lastOccurrence a b 0 a.length with
    | none => intro h; exact laid_parts I h
    | some i => intro h; exact laid_parts I h
def bRpart (a : Dt) (ds : List Dt) (μ : Mem) : R Dt := match a, ds with
  | .str x, [.str y] => if (y.length == 0) = false ∧ x.length ≤ 10000000 then .ok (.tup [.str (Txt.rpartition x y).1, .str (Txt.rpartition x y).2.1, .str (Txt.rpartition x y).2.2]) μ else .no
  | _, _ => .no
theorem rm_rpart : RM rRpart bRpart := fun W ω σ μ H x a xs ds Q w ra r h => by
  unfold bRpart at h
  split at h
  · split at h
    · rename_i hc
      cases ra
      obtain ⟨v, rfl, rv⟩ := r.one
      cases rv
      exact ⟨_, _, rfl, rfl, hc.1, Nat.le_trans hc.2 (by decide), fun p hp => h.newT w (.cons (.str _) (.cons (.str _) (.cons (.str _) .nil))) hp⟩
    · exact h.elim
  · exact h.elim
def bAppend (a : Dt) (ds : List Dt) (μ : Mem) : R Dt := match a, ds with
  | .ptr i, [d] => match μ[i]? with
    | some (.lst es) => if es.length ≤ 1000000 then .ok .non (μ.set i (.lst (es ++ [d]))) else .no
    | _ => .no
  | _, _ => .no
theorem rm_append : RM rAppend bAppend := fun W ω σ μ H x a xs ds Q w ra r h => by
  unfold bAppend at h
  split at h
  · split at h
    · rename_i es e
      split at h
      · rename_i hc
        obtain ⟨v, rfl, rv⟩ := r.one
        cases ra with
        | ptr hb =>
          obtain ⟨hB, ys, hy, ry⟩ := w.at_ _ _ _ hb e
          refine ⟨_, ys, v, rfl, rfl, hy, Nat.lt_of_le_of_lt (by rw [ry.len]; exact hc) (show 1000000 < sizeLine by decide), ?_⟩
          exact h _ ω _ (Le.refl _) (w.put hb hB ⟨hB, ys ++ [v], upd_same, ry.app (.cons rv .nil)⟩) .non
      · exact h.elim
    · exact h.elim
  · exact h.elim
def bIndex (a : Dt) (ds : List Dt) (μ : Mem) : R Dt := match asL μ a, ds with
  | some es, [d] => if flatD d = true ∧ es.all flatD = true then (match es.findIdx? fun e => eqF e d with
    | some j => .ok (.int (j : Nat)) μ
    | none => .no) else .no
  | _, _ => .no
theorem k_index {X : Cx} (hK : X.K = K) : MtR X "list.index" (rIndex K) := hK ▸ mt_index
theorem rm_index : RM (rIndex K) bIndex := fun W ω σ μ H x a xs ds Q w ra r h => by
  unfold bIndex at h
  split at h
  · rename_i es d e
    split at h
    · rename_i hf
      split at h
      · rename_i j ej
        obtain ⟨v, rfl, rv⟩ := r.one
        obtain ⟨p, ys, rfl, hq, ry⟩ := asL_ok w ra e
        obtain ⟨hj, hp, hmin⟩ := List.findIdx?_eq_some_iff_getElem.mp ej
        have hej : es[j]? = some es[j] := List.getElem?_eq_getElem hj
        obtain ⟨z, hz, rz⟩ := ry.get hej
        have fe : ∀ {m : Nat} {x : Dt}, es[m]? = some x → flatD x = true := fun {m x} hx => List.all_eq_true.mp hf.2 x (List.mem_of_getElem? hx)
        refine ⟨p, ys, v, j, z, rfl, rfl, .inl (.inl hq), rv.flat hf.1, ry.flat hf.2, hz, ?_, fun m z' hm hz' => ?_, h.ok w (.int _)⟩
        · rw [rz.eqF rv (fe hej) hf.1]
          exact hp
        · have hml : m < es.length := Nat.lt_trans hm hj
          obtain ⟨z2, hz2, rz2⟩ := ry.get (List.getElem?_eq_getElem hml)
          rw [hz2] at hz'
          cases hz'
          rw [rz2.eqF rv (fe (List.getElem?_eq_getElem hml)) hf.1]
          simpa using hmin m hm
      · exact h.elim
    · exact h.elim
  · exact h.elim
end
end DM

set_option linter.all false
set_option maxRecDepth 100000
set_option maxHeartbeats 4000000
/-! DM5: errors that are kept; calls of defs; what a def promises; raise, try. -/
namespace DM
open PySem PySem.Spec PyProof.Rows L2
open Classical
theorem exK_ok {P : Program} {w : World} {H : Hp} {h : Heap} {a : Addr} {cls : Value} {d : Option Addr} {oe : Obj} {vs : Array Value} (e : h.get? a = some oe) (z : Zc cls d oe) (q : oe.data = .fields vs) : ObjOk P w H h a (exK cls d a) :=
  ⟨⟨oe, vs, e, z, q⟩, ⟨oe, e⟩, fun _ _ ⟨o, v, q, r⟩ k => ⟨o, v, k o q, r⟩⟩
theorem exK_at {P : Program} {w : World} {H : Hp} {h : Heap} {a : Addr} {cls : Value} {d : Option Addr} (hok : HOk P w H h) (he : H a = some (exK cls d a)) : ∃ (oe : Obj) (vs : Array Value), h.get? a = some oe ∧ Zc cls d oe ∧ oe.data = .fields vs := by
  have x : ObjOk P w H h a (.ext fun h => ∃ (oe : Obj) (vs : Array Value), h.get? a = some oe ∧ Zc cls d oe ∧ oe.data = .fields vs) := hok a _ he
  exact x.1
/-- the context of a suite whose error is tracked -/
abbrev supX (X : Cx) (a : Addr) : Cx := { X with A := X.A.mark (some (.ref a)), calm := false, xe := fun _ _ => False }
theorem supOk {X : Cx} (ok : X.Ok) (a : Addr) : (supX X a).Ok :=
  ⟨ok.mod, ok.kind, ok.glob, ok.blt, ok.above, ok.inj, ok.has, ok.cab, (fun z => absurd (show false = true from z) Bool.false_ne_true), ok.frames, ok.stk, ok.exf, ok.bs, ok.bsz, ok.noex, ok.exfs, ok.funs, ok.frf⟩
section
variable {X : Cx} {pins : List (Addr × Obj)} {σ : L2.St} {H : Hp} {s : Shared} {a : Addr} {o : HO}
theorem Inv.track (I : Inv X pins σ H s) (na : H a = none) (n0 : X.s_0.heap.get? a = none) (nL : a ≠ X.env.locals) (nc : ∀ x c, X.env.cells.lookup x = some c → c ≠ a) (np : ∀ p ∈ X.pn ++ pins, p.1 ≠ a)
    (new : ObjOk X.prog X.w (upd H a o) s.heap a o) : Inv X pins σ (upd H a o) s := by
  have ne0 : ∀ b ob, X.s_0.heap.get? b = some ob → b ≠ a := fun b ob e z => by
    rw [z, n0] at e
    cases e
  refine ⟨I.ok, I.os, I.bare, ⟨I.base.keep, I.base.slot, fun b ob e n hq => ?_, I.base.there, fun b xs e => ?_, fun b ob u e => ?_, fun b ps e => ?_⟩, I.loc, I.cell, ?_, fun x c e => ?_, fun p hp => ?_, ?_, I.len⟩
  · rw [upd_ne (ne0 b ob e)]
    exact I.base.free b ob e n hq
  · have q := I.base.tups b xs e
    rw [upd_ne (ne_of_none q na)]
    exact q
  · have q := I.base.frzs b ob u e
    rw [upd_ne (ne_of_none q na)]
    exact q
  · obtain ⟨m, q⟩ := I.base.tbls b ps e
    exact ⟨m, by rw [upd_ne (ne_of_none q na)]; exact q⟩
  · rw [upd_ne nL.symm]
    exact I.free
  · rw [upd_ne (nc x c e)]
    exact I.freeC x c e
  · obtain ⟨e, n, ne, nf, d⟩ := I.pin p hp
    exact ⟨e, by rw [upd_ne (np p hp)]; exact n, ne, nf, d⟩
  · intro b u e
    by_cases hb : b = a
    · subst hb
      rw [upd_same] at e
      cases e
      exact new
    · rw [upd_ne hb] at e
      exact (I.hok b u e).stay (fun _ _ _ q => q) (fun c q => by rw [upd_ne (ne_of_none q na)]; exact q) fun c xs q => by rw [upd_ne (ne_of_none q na)]; exact q
theorem Inv.toSup (I : Inv X pins σ H s) (a : Addr) : Inv (supX X a) pins σ H s := ⟨supOk I.ok a, I.os, I.bare, I.base, I.loc, I.cell, I.free, I.freeC, I.pin, I.hok, I.len⟩
theorem Inv.ofSup (I : Inv (supX X a) pins σ H s) (ok : X.Ok) : Inv X pins σ H s := ⟨ok, I.os, I.bare, I.base, I.loc, I.cell, I.free, I.freeC, I.pin, I.hok, I.len⟩
end
/-- what the clause 'except x as n' wishes: the error at a is tracked; slot i is n's -/
def wKeep (K : PySem.W.Frag) (c : Value) (i : Nat) (ts : TS) (Wout : WX) (D : Ends) : WX := fun cls d σ H =>
  ∃ b, PySem.W.exmOne K cls c = some b ∧ (b = true → ∀ a, H a = none → ts { nx := fun σ' H' => D.nx (σ'.set i none) H', rt := D.rt, bk := fun σ' H' => D.bk (σ'.set i none) H', ct := fun σ' H' => D.ct (σ'.set i none) H' } (σ.set i (some (.ref a))) (upd H a (exK cls d a))) ∧
    (b = false → Wout cls d σ H)
/-- 'except x' without a name -/
def wNot (K : PySem.W.Frag) (c : Value) (ts : TS) (Wout : WX) (D : Ends) : WX := fun cls d σ H =>
  ∃ b, PySem.W.exmOne K cls c = some b ∧ (b = true → ∀ a, H a = none → ts D σ (upd H a (exK cls d a))) ∧ (b = false → Wout cls d σ H)
section
variable {X : Cx} {x n : Str} {c : Value} {i : Nat} {body suite : List Stmt} {b₀ : Stmt} {np pos pos' : Pos} {tb : WX → TS} {ts : TS} {Wout : WX}
/-- the part of the catch that leads into the suite -/
theorem caught_track {pins : List (Addr × Obj)} {σ' : L2.St} {H' : Hp} {sI s' : Shared} {B : Heap} {a : Addr} {cls : Value} {d : Option Addr} {oe : Obj} {vs : Array Value} (hex : X.ex = []) (J : Inv X pins σ' H' sI) (J3 : Inv X pins σ' H' s')
    (nb : ∀ b o, sI.heap.get? b = some o → b ∉ frs X.stack → B.get? b = some o) (hBn : B.get? a = none) (nS : a ∉ frs X.stack) (nL : a ≠ X.env.locals) (na : H' a = none) (he : s'.heap.get? a = some oe) (hz : Zc cls d oe) (hd : oe.data = .fields vs) :
    Inv (supX X a) pins σ' (upd H' a (exK cls d a)) s' := by
  have nI : sI.heap.get? a = none := by
    cases e : sI.heap.get? a with
    | none => rfl
    | some o =>
      have := nb a o e nS
      rw [hBn] at this
      cases this
  have n0 : X.s_0.heap.get? a = none := by
    cases e : X.s_0.heap.get? a with
    | none => rfl
    | some o =>
      obtain ⟨o', e'⟩ := J.base.there a o e (by rw [hex]; exact fun z => nomatch z)
      rw [nI] at e'
      cases e'
  refine Inv.toSup (Inv.track J3 na n0 nL (fun x c e z => ?_) (fun p hp z => ?_) (exK_ok he hz hd)) a
  · obtain ⟨v, o, ho, hdo⟩ := J3.cell x c e
    rw [z, he] at ho
    cases ho
    rw [hd] at hdo
    cases hdo
  · have q := (J.pin p hp).1
    rw [z, nI] at q
    cases q
theorem ps_try_keep (hs : X.stack = X.env :: X.outer) (hf : X.env.frame = some X.env.locals) (hex : X.ex = []) (hN : X.N.Nodup) (hi : X.N[i]? = some n) (hln : X.env.kindOf n = some .local) (hc : Names X x c) (tk : Takes X Wout)
    (hb : ∀ (W : WX) (pn : List (Addr × Obj)) (xe : Value → Shared → Prop), Takes (X.tr pn xe) W → PassesOwn (model X.prog X.w) X.A X.env xe → PSs (X.tr pn xe) body (tb W))
    (hsu : ∀ a : Addr, PSs (supX X a) (b₀ :: suite) ts) :
    PS X (.Try body [.ExceptHandler (some (.Name x np)) (some n) (b₀ :: suite) pos'] [] [] pos) (fun D σ H => tb (wKeep X.K c i ts Wout D) D σ H) := by
  refine ⟨fun pins s σ H D I h => ?_⟩
  have ok := I.ok
  have hfr : X.A.frames = some (X.env :: X.outer) := by rw [ok.frames, hs]
  have hloc : Loc X.env.scope n := .inl hln
  refine wpAny_Try_except ?_
  refine wpAny_mono ((hb (wKeep X.K c i ts Wout D) (X.pn ++ pins) (fun e s₁ => wpAny (model X.prog X.w) X.A (noteFrame e X.env) (fun _ s₂ => wpAny (model X.prog X.w) X.A (setFlight e none) (fun _ s₃ =>
    wpAny (model X.prog X.w) X.A (handleBy e X.env [.ExceptHandler (some (.Name x np)) (some n) (b₀ :: suite) pos']) (SP X pins D) X.xe s₃) X.xe s₂) X.xe s₁) (fun u s' xx => ?_) PassesOwn.looking).run [] s σ H D (I.toTry _) h) (fun f s1 hsp => ?_) (fun e s1 he => he)
  · obtain ⟨a, B, sI, pins', σ', H', cls, d, rfl, J', nb, up, sky, na, os, ag, b, hb1, hyes, hno⟩ := xx
    have J : Inv X pins σ' H' sI := J'.ofTry ok
    have sky' : Sky B (X.env :: X.outer) a (Zc cls d) X.env.locals s'.heap := by rw [← hs]; exact sky
    show wpAny (model X.prog X.w) X.A (noteFrame (.ref a) X.env) _ _ _
    refine Sky.land Zc.steady hfr hf sky' fun h3 fl3 up3 => ?_
    have J3 : Inv X pins σ' H' { s' with heap := h3 } := J.landed nb fl3.1 (up.trans up3) os ag
    obtain ⟨oe3, vs3, he3, hz3, hd3⟩ := fl3.there
    have notFr : ∀ {h : Heap} {o : Obj} {vs : Array Value}, h.FunFrames B (X.env :: X.outer) → h.get? a = some o → o.data = .fields vs → a ∉ frs (X.env :: X.outer) := fun {h o vs} ff e dd hm => by
      obtain ⟨_, o', e', hnf⟩ := ff.mem hm
      rw [e] at e'; cases e'
      exact hnf _ dd
    have nfr := notFr fl3.2.2.1 he3 hd3
    have nL : a ≠ X.env.locals := fun z => nfr (List.mem_filterMap.mpr ⟨X.env, List.mem_cons_self, by rw [hf, z]⟩)
    have nF : a ∉ X.fs := fun hm => by
      obtain ⟨e, he, q⟩ := List.mem_filterMap.mp hm
      exact nfr (List.mem_filterMap.mpr ⟨e, List.mem_cons_of_mem _ he, q⟩)
    have S3 := J3.suite he3 hd3 na nL nF
    refine wpAny_handleBy_cons (codeAny_handlers_test ?_) (by intro q; cases q)
    have LT : PySem.W.Looks (model X.prog X.w) h3 (typeOf (.ref a)) cls := fun A Q E s k q => wpAny_typeOf_ref (k _ _ he3) (by rw [hz3.1]; exact q)
    have LM := PySem.W.exm_one (M := model X.prog X.w) (J3.kIn) LT hb1
    have test : ∀ {Q : Value → Shared → Prop} {E : Value → Shared → Prop}, Q c { s' with heap := h3 } → wpAny (model X.prog X.w) (X.A.mark (some (.ref a))) (eval (.Name x np) X.env) Q E { s' with heap := h3 } := fun {Q E} q => by
      obtain ⟨hg, hdbg, hm | ⟨hm, hv, hnn⟩⟩ := hc
      · exact ld_glob (X := X.suite a ((a, oe3) :: (X.pn ++ pins))) S3 hg hm q hdbg
      · exact ld_blt (X := X.suite a ((a, oe3) :: (X.pn ++ pins))) S3 hg hm hv q hnn hdbg
    refine test (LM.here ?_)
    cases b with
    | true =>
      refine codeAny_handlers_suite_as ?_
      refine HandSPX.lands_againZ fl3 fun h4 fl4 up4 => ?_
      have J4 : Inv X pins σ' H' { s' with heap := h4 } := J.landed nb fl4.1 ((up.trans up3).trans up4) os ag
      obtain ⟨oe4, vs4, he4, hz4, hd4⟩ := fl4.there
      have S4 : Inv (supX X a) pins σ' (upd H' a (exK cls d a)) { s' with heap := h4 } := caught_track hex J J4 nb fl4.2.1 (by rw [hs]; exact nfr) nL na he4 hz4 hd4
      refine store_ok (X := supX X a) (v := .ref a) S4 hN hi hloc rfl (fun s5 S5 => ?_) (.inr hln)
      refine wpAny_mono ((hsu a).run pins s5 _ _ _ S5 (hyes rfl a na)) (fun f s6 hsp => ?_) (fun _ _ z => False.elim z)
      have end_ : ∀ {σ6 : L2.St} {H6 : Hp} {Q : Shared → Prop}, Inv (supX X a) pins σ6 H6 s6 → (∀ s7, Inv X pins (σ6.set i none) H6 s7 → Q s7) →
          wpAny (model X.prog X.w) X.A (do bindName X.env n .none; unbindBehindTheSuite X.env n pos') (fun _ s7 => Q s7) X.xe s6 := fun {σ6 H6 Q} S6 hq => gone_ok (Inv.ofSup S6 ok) hN hi hln hq
      cases f with
      | next =>
        obtain ⟨σ6, H6, S6, q6⟩ := hsp
        exact end_ S6 fun s7 J7 => ⟨_, _, J7, q6⟩
      | brk =>
        obtain ⟨σ6, H6, S6, q6⟩ := hsp
        exact end_ S6 fun s7 J7 => ⟨_, _, J7, q6⟩
      | cont =>
        obtain ⟨σ6, H6, S6, q6⟩ := hsp
        exact end_ S6 fun s7 J7 => ⟨_, _, J7, q6⟩
      | ret u =>
        obtain ⟨v6, σ6, H6, S6, r6, q6⟩ := hsp
        exact end_ S6 fun s7 J7 => ⟨_, _, _, J7, r6, q6⟩
    | false =>
      show wpAny _ X.A (handleBy (.ref a) X.env []) _ _ _
      refine wpAny_handleBy_nil ?_
      obtain ⟨k1, k2, k3, oe, vs, T, oT, ts', he, hz, hd, h1, hr⟩ := id fl3
      unfold PySem.passOn
      refine wpAny_bind (wpAny_field he hd h1 ?_)
      rw [if_neg (show ¬ ((Value.ref T == Value.none) = true) from by simp)]
      have fin : wpAny (model X.prog X.w) X.A (setFlight (.ref a) X.env.frame) (fun _ s4 => wpAny (model X.prog X.w) X.A (throw (.ref a) : Sem Flow) (SP X pins D) X.xe s4) X.xe { s' with heap := h3 } := by
        rw [hf]
        refine HandSPX.setFlight_upZ fl3 fun h4 hh4 up4 => wpAny_throw (tk _ _ ?_)
        exact ⟨a, B, sI, pins, σ', H', cls, d, rfl, J, nb, (up.trans up3).trans up4, .inr (.inr (by rw [hs]; exact hh4)), na, os, ag, hno rfl⟩
      first
        | exact wpAny_bind (wpAny_pure (wpAny_bind fin))
        | exact wpAny_bind fin
  · cases f with
    | next =>
      obtain ⟨σ', H', J', q⟩ := hsp
      exact wpAny_execs_nil ⟨σ', H', J'.ofTry ok, q⟩
    | brk =>
      obtain ⟨σ', H', J', q⟩ := hsp
      exact ⟨σ', H', J'.ofTry ok, q⟩
    | cont =>
      obtain ⟨σ', H', J', q⟩ := hsp
      exact ⟨σ', H', J'.ofTry ok, q⟩
    | ret u =>
      obtain ⟨v, σ', H', J', r, q⟩ := hsp
      exact ⟨v, σ', H', J'.ofTry ok, r, q⟩
end
/-! ### isinstance of a kept error, its fields -/
structure ExC (K : PySem.W.Frag) (D : Addr) : Prop where
  cl : (PySem.W.clsIn K D).isSome = true
  hg : PySem.W.findIn K (.ref D) "__getattribute__" = some (some (.builtin "BaseException.__getattribute__"))
  hk : PySem.W.findIn K (.ref D) "__getattr__" = some none
  hs : PySem.W.subIn K (.ref D) (.type "BaseException") = some true
  hd : PySem.W.hasDictIn K D = true
  ha : PySem.W.findIn K (.ref D) "__class__" = some (some (.builtin "object.__class__"))
  hn : PySem.W.specialIn K (.builtin "object.__class__") "__get__" = some (some (.builtin "getset_descriptor.__get__"))
  ht : PySem.W.takesIn K (.builtin "object.__class__") = some true
  hm : PySem.W.mroIn K D (.type "object") = some true
/-- isinstance(e, c), e a kept error -/
def rIsX (K : PySem.W.Frag) : List V → Hp → VK → Prop := fun xs H Q => ∃ (a D : Addr) (d : Option Addr) (c : V) (cv : Value) (b : Bool), xs = [.ref a, c] ∧ H a = some (exK (.ref D) d a) ∧ (∀ dd, d = some dd → ∃ fs, H dd = some (.xd fs)) ∧ ExC K D ∧ ClsV c cv ∧ PySem.W.kitOne K (.ref D) cv = some b ∧ Q (.bl b) H
theorem call_isX {X : Cx} : CallR X (.builtin "isinstance") (rIsX X.K) := by
  intro pins s σ H xs us Q I r h
  obtain ⟨a, D, d, c, cv, b, rfl, ha, hdd, C, k, e, q⟩ := h
  obtain ⟨u1, u2, rfl, r1, r2⟩ := vals2 r
  have e2 := k.eq r2
  subst e2
  cases (show u1 = Value.ref a from r1)
  obtain ⟨oe, vs, hget, hz, hv⟩ := exK_at I.hok ha
  have hno : PySem.W.notCls oe = true := by unfold PySem.W.notCls; rw [hv] <;> rfl
  have J : ∃ od, PySem.W.InstAt s.heap a oe D od := by
    cases d with
    | none => exact ⟨none, hget, hz.1, hno, by rw [hz.2]; trivial⟩
    | some dd =>
      obtain ⟨fs, hx⟩ := hdd dd rfl
      obtain ⟨mA, ⟨od, es, ep, ho, _⟩, _⟩ := (show ObjOk X.prog X.w H s.heap dd (.xd fs) from I.hok dd _ hx)
      exact ⟨some od, hget, hz.1, hno, by rw [hz.2]; exact ho⟩
  obtain ⟨od, J⟩ := J
  exact PySem.W.kia_one (PySem.W.kitx_exc C.cl C.hg C.hk C.hs C.ha C.hn C.ht C.hm) I.kIn J e (fun z => nomatch z) fun tk => ⟨.bl b, H, I.kept (t' := tk) fun _ _ z => z, rfl, q⟩
/-- either way -/
def rIsU (K : PySem.W.Frag) : List V → Hp → VK → Prop := fun xs H Q => rIsX K xs H Q ∨ rIsi K xs H Q
theorem k_isU {X : Cx} {K : PySem.W.Frag} (hK : X.K = K) : CallR X (.builtin "isinstance") (rIsU K) := fun pins s σ H xs us Q I r h => by
  subst hK
  rcases h with h | h
  · exact call_isX pins s σ H xs us Q I r h
  · exact call_isi pins s σ H xs us Q I r h
/-- e.f, e a kept error -/
def tXfK (K : PySem.W.Frag) (f : Str) (te : TE) : TE := fun σ H Q => te σ H fun x H1 => ∃ (a C dd : Addr) (fs : List (Str × V)) (v : V), x = .ref a ∧ ExC K C ∧ PySem.W.findIn K (.ref C) f = some none ∧ H1 a = some (exK (.ref C) (some dd) a) ∧ H1 dd = some (.xd fs) ∧ fs.lookup f = some v ∧ Q v H1
theorem k_xf {X : Cx} {K : PySem.W.Frag} (hK : X.K = K) {e : Expr} {te : TE} {pos : Pos} {n : Str} (he : PE X e te) (hb : attributeBase e n X.env (eval e X.env) = eval e X.env := by rfl) : PE X (.Attribute e n pos) (tXfK K n te) := by
  subst hK
  refine ⟨fun pins s σ H Q I h => ?_⟩
  refine attr_of hb (thn (he.run pins s σ H _ I h) fun u s1 hh => ?_)
  obtain ⟨x, H1, I1, rx, a, C, dd, fs, v, ex, T, hno, ha, ea, l, q⟩ := hh
  subst ex
  obtain rfl : u = Value.ref a := rx
  obtain ⟨oe, vs, hget, hz, hd⟩ := exK_at I1.hok ha
  have hx : ObjOk X.prog X.w H1 s1.heap dd (.xd fs) := I1.hok dd _ ea
  obtain ⟨mA, hns, hr⟩ := hx
  obtain ⟨od, ho, hl⟩ := lookIn_ns hns
  obtain ⟨u, hu, ru⟩ := RelO.some_of (v := v) (o := mA n) (by rw [← l]; exact hr n)
  have J : PySem.W.InstAt s1.heap a oe C (some od) := ⟨hget, hz.1, by unfold PySem.W.notCls; rw [hd] <;> rfl, by rw [hz.2]; exact ho⟩
  exact HandSPX.exc_get I1.kIn J T.hg T.hk T.hs (PySem.W.findObj_own T.hd hno rfl (by rw [hl, hu])) (handed_of ru) ⟨v, H1, I1.tok _, ru, q⟩
/-- f(e, .., k = v, ..) that may raise -/
def tCallNS (n m : Nat) (sp : Sp) (gV : List V → List V → List V) (E : L2.St → XK) (t tk : TA) : TE := fun σ H Q => t σ H fun vs H1 => tk σ H1 fun zs H2 => vs.length = n ∧ zs.length = m ∧ sp (gV vs zs) H2 Q (E σ)
theorem FunD.kbinds0 {K : PySem.W.Frag} {x qual : Str} {params : Arguments} {body : List Stmt} {scope : Scope} {kws : List (Str × V)} {f : Addr} {fd : FuncData} {ps : List Str} (F : FunD K x qual params body scope [] kws f fd) (n : Nat) (ks : List Str) (ms : List (Str × V)) (g : {α : Type} → List α → List α → List α → List α) (hms : ∀ q ∈ ms, q ∈ kws)
    (hrel : ∀ {vs mz zs : List V} {us mv ws : List Value}, Vals vs us → Vals mz mv → Vals zs ws → Vals (g vs mz zs) (g us mv ws))
    (h : ∀ (dk doc pm : Value) (D : Addr) (an : Option Addr) (cdv ct : Value) (us mv ws : List Value), (kws ≠ [] → dk = .ref D) → us.length = n → mv.length = ms.length → ws.length = ks.length →
      KwChain D ((ms.map (·.1)).zip mv) (bindArgs (PySem.W.fnOf x qual params body scope .none dk doc pm an cdv ct) ⟨us, ks.zip ws⟩) (ps.zip (g us mv ws))) :
    ∃ mv : List Value, KBn K fd ps n ks (fun us ws => g us mv ws) (fun vs zs => g vs (ms.map (·.2)) zs) := by
  obtain ⟨oc, od, dV, kV, doc, pm, an, cdv, ct, osl, rfl, lk, hcd, hD, hK⟩ := F.ex
  rcases hD with ⟨_, rfl⟩ | ⟨e, _⟩
  · have hK' : ∃ D : Addr, (kws ≠ [] → kV = .ref D) ∧ ∀ q ∈ kws, ∃ u, PySem.W.nsIn K D q.1 = some (some u) ∧ RelV q.2 u := by
      rcases hK with e | ⟨D, e, hq⟩
      · exact ⟨0, fun z => absurd e z, fun q hq => by rw [e] at hq; cases hq⟩
      · exact ⟨D, fun _ => e, hq⟩
    obtain ⟨D, e, hq⟩ := hK'
    obtain ⟨mv, hl, rk, hks⟩ := kwd_vals (ms := ms) fun q hm => hq q (hms q hm)
    refine ⟨mv, ⟨fun s us ws X l1 l2 => ?_, fun r1 r2 => hrel r1 rk r2⟩⟩
    exact BindsTo.of_looks fun M => KwChain.looks X hks (h kV doc pm D an cdv ct us mv ws e l1 hl l2)
  · exact absurd rfl e
section
variable {X : Cx} {CX : CXT} {k n : Nat} {f : Addr} {fd : FuncData} {ps ks : List Str} {sp : Sp} {E : L2.St → XK} {x : Str} {p pos : Pos} {e : Expr} {es : List Expr} {kws : List Keyword} {t tk : TA} {g : List Value → List Value → List Value} {gV : List V → List V → List V}
theorem run_fnNS {pins : List (Addr × Obj)} {σ : L2.St} {H : Hp} {s : Shared} {Q : VK} {us ws : List Value} {vs zs : List V} (F : FnOk X.prog X.w X.K X.mg X.base CX k f fd ps sp) (hr : Room k X.A) (hb : KBn X.K fd ps n ks g gV) (hx : PassesAt CX X σ (E σ))
    (I : Inv X pins σ H s) (r : Vals vs us) (rz : Vals zs ws) (l1 : vs.length = n) (l2 : zs.length = ks.length) (h : sp (gV vs zs) H Q (E σ)) : wpAny (model X.prog X.w) X.A (call (.ref f) us (ks.zip ws)) (L2.EP X pins σ Q) X.xe s := by
  have r2 := hb.rel r rz
  refine wpAny_call (codeAny_mono (F.run X.A X.stack s H ⟨us, ks.zip ws⟩ (g us ws) (gV vs zs) Q (E σ) hr I.env0 (hb.to s us ws I.kIn (r.length.symm.trans l1) (rz.length.symm.trans l2)) r2 h) fun r s' hq => ?_)
  cases r with
  | error e => exact hx pins H s e s' I hq
  | ok fl =>
    cases fl with
    | ret u => exact I.after hq
    | next => exact False.elim hq
    | brk => exact False.elim hq
    | cont => exact False.elim hq
theorem pe_callNS (F : FnOk X.prog X.w X.K X.mg X.base CX k f fd ps sp) (hr : Room k X.A) (hg : Gl X x) (hm : X.mg x = some (.ref f)) (hk : PySem.W.keepIn X.K (.ref f) = true) (hb : KBn X.K fd ps n ks g gV) (hx : ∀ σ, PassesAt CX X σ (E σ))
    (ha : PA X (e :: es) t) (hkw : PK X kws tk) (hall : (backToKw pos (keywordEach kws X.env)).all (·.1.isSome) = true := by rfl) (hks : (backToKw pos (keywordEach kws X.env)).filterMap (·.1) = ks := by rfl)
    (hdb : (x == ("__debug__" : Str)) = false := by decide) (he : starEach (e :: es) X.env = (false, eval e X.env) :: starEach es X.env := by rfl)
    (hpl : ((backTo pos (starEach (e :: es) X.env)).any (·.1) || (backToKw pos (keywordEach kws X.env)).any (·.1.isNone)) = false := by rfl) :
    PE X (.Call (.Name x p) (e :: es) kws pos) (tCallNS n ks.length sp gV E t tk) := by
  refine ⟨fun pins s σ H Q I h => ?_⟩
  refine wpAny_Call_Name_kw (ld_glob I hg hm ?_ hdb)
  refine PySem.W.callWith_KW (h₀ := X.base) I.ok.mod.kin hk hall (thn (ha.run pos pins s σ H _ I h) fun us s1 ⟨vs, H1, I1, r, q⟩ => ?_) hpl he
  refine thn (hkw.run pos pins s1 σ H1 _ I1 q) fun ws s2 ⟨zs, H2, I2, rz, l1, l2, q2⟩ => ⟨I2.kIn, ?_⟩
  rw [hks]
  exact run_fnNS F hr hb (hx σ) I2 r rz l1 l2 q2
theorem pe_callNS0 (F : FnOk X.prog X.w X.K X.mg X.base CX k f fd ps sp) (hr : Room k X.A) (hg : Gl X x) (hm : X.mg x = some (.ref f)) (hk : PySem.W.keepIn X.K (.ref f) = true) (hb : KBn X.K fd ps 0 ks g gV) (hx : ∀ σ, PassesAt CX X σ (E σ))
    (hkw : PK X kws tk) (hall : (backToKw pos (keywordEach kws X.env)).all (·.1.isSome) = true := by rfl) (hks : (backToKw pos (keywordEach kws X.env)).filterMap (·.1) = ks := by rfl)
    (hdb : (x == ("__debug__" : Str)) = false := by decide)
    (hpl : ((backTo pos (starEach [] X.env)).any (·.1) || (backToKw pos (keywordEach kws X.env)).any (·.1.isNone)) = false := by rfl) :
    PE X (.Call (.Name x p) [] kws pos) (tCallNS 0 ks.length sp gV E tNil tk) := by
  refine ⟨fun pins s σ H Q I h => ?_⟩
  refine wpAny_Call_Name_kw (ld_glob I hg hm ?_ hdb)
  refine PySem.W.callWith_KW0 (h₀ := X.base) I.ok.mod.kin hk hall (thn (hkw.run pos pins s σ H _ I h) fun ws s2 ⟨zs, H2, I2, rz, l1, l2, q2⟩ => ⟨I2.kIn, ?_⟩) hpl
  rw [hks]
  exact run_fnNS (us := []) (vs := []) F hr hb (hx σ) I2 .nil rz l1 l2 q2
/-- f(e, ..), the keyword-only ones lack -/
theorem pe_callNP (F : FnOk X.prog X.w X.K X.mg X.base CX k f fd ps sp) (hr : Room k X.A) (hg : Gl X x) (hm : X.mg x = some (.ref f)) (hk : PySem.W.keepIn X.K (.ref f) = true) (hb : KBn X.K fd ps n [] g gV) (hx : ∀ σ, PassesAt CX X σ (E σ))
    (ha : PA X (e :: es) t) (hdb : (x == ("__debug__" : Str)) = false := by decide) (he : starEach (e :: es) X.env = (false, eval e X.env) :: starEach es X.env := by rfl) (hpl : (backTo pos (starEach es X.env)).any (·.1) = false := by rfl) :
    PE X (.Call (.Name x p) (e :: es) [] pos) (tCallNS n 0 sp gV E t tNil) := by
  refine ⟨fun pins s σ H Q I h => ?_⟩
  refine wpAny_Call_Name_kw (ld_glob I hg hm ?_ hdb)
  refine PySem.W.callWith_K (h₀ := X.base) I.ok.mod.kin hk (thn (ha.run pos pins s σ H _ I h) fun us s1 ⟨vs, H1, I1, r, q⟩ => ⟨I1.kIn, ?_⟩) he hpl
  obtain ⟨l1, l2, q2⟩ := (show vs.length = n ∧ ([] : List V).length = 0 ∧ sp (gV vs []) H1 Q (E σ) from q)
  exact run_fnNS (ks := []) (ws := []) (zs := []) F hr hb (hx σ) I1 r .nil l1 l2 q2
end

/-! ### isinstance -/
def tyN : Dt → String
  | .non => "NoneType"
  | .bl _ => "bool"
  | .int _ => "int"
  | .str _ => "str"
  | .lst _ => "list"
  | .tup _ => "tuple"
  | _ => ""
theorem Rp.tyx {K : PySem.W.Frag} {ω : Wd} {μ : Mem} {H : Hp} {v : V} {d : Dt} (w : WR ω μ H) (h : Rp ω v d) (hn : tyN d ≠ "") : TyX K H v (.type (tyN d)) := by
  cases h with
  | non => exact .base .non
  | bl b => exact .base (.bl b)
  | int i => exact .base (.int i)
  | str x => exact .base (.str x)
  | lst h1 _ => exact .base (.lst (w.x _ _ h1))
  | tup h1 _ => exact .base (.tup (w.x _ _ h1))
  | _ => exact absurd rfl hn
/-- how the classes of errors stand to one another -/
abbrev Tab := Nat → Dt → Option Bool
def TabOk (K : PySem.W.Frag) (Γ : Gm) (tab : Tab) : Prop := ∀ n c b, tab n c = some b → ExC K (Γ.c n) ∧ ((∃ T, c = .ty T ∧ PySem.W.kitOne K (.ref (Γ.c n)) (.type T) = some b) ∨ ∃ m, c = .cls m ∧ PySem.W.kitOne K (.ref (Γ.c n)) (.ref (Γ.c m)) = some b)
def tyOf (μ : Mem) : Dt → String
  | .ptr i => match μ[i]? with
    | some (.lst _) => "list"
    | some (.dK _) => "dict"
    | some (.dT _) => "dict"
    | _ => ""
  | d => tyN d
theorem Rp.tyx2 {K : PySem.W.Frag} {ω : Wd} {μ : Mem} {H : Hp} {v : V} {d : Dt} (w : WR ω μ H) (h : Rp ω v d) (hn : tyOf μ d ≠ "") : TyX K H v (.type (tyOf μ d)) := by
  cases h with
  | ptr hb =>
    rename_i i a
    unfold tyOf at hn ⊢
    dsimp only at hn ⊢
    split at hn
    · rename_i ds e
      obtain ⟨_, xs, hx, _⟩ := w.at_ _ _ _ hb e
      exact .base (.lst hx)
    · rename_i ds e
      obtain ⟨_, xs, hx, _⟩ := w.at_ _ _ _ hb e
      exact .base (.dK hx)
    · rename_i ds e
      obtain ⟨_, xs, hx, _⟩ := w.at_ _ _ _ hb e
      exact .base (.dT hx)
    · exact absurd rfl hn
  | lst h1 h2 => exact (Rp.lst h1 h2).tyx w hn
  | tup h1 h2 => exact (Rp.tup h1 h2).tyx w hn
  | non => exact .base .non
  | bl b => exact .base (.bl b)
  | int i => exact .base (.int i)
  | str x => exact .base (.str x)
  | _ => exact absurd rfl hn
def cIsi (tab : Tab) (ds : List Dt) (μ : Mem) : R Dt := match ds with
  | [.exc n ns es, c] => match tab n c with
    | some b => .ok (.bl b) μ
    | none => .no
  | [d, .ty T] => if tyOf μ d = "" then .no else match kitB (tyOf μ d) T with
    | some b => .ok (.bl b) μ
    | none => .no
  | _ => .no
theorem rc_isi {Γ : Gm} {K : PySem.W.Frag} {tab : Tab} (ht : TabOk K Γ tab) : RC Γ (rIsU K) (cIsi tab) := fun W ω σ μ H xs ds Q hg w r h => by
  unfold cIsi at h
  split at h
  · rename_i n ns es c
    split at h
    · rename_i b e
      obtain ⟨X, hk⟩ := ht n c b e
      obtain ⟨v, u, rfl, rv, ru⟩ := r.two
      have hc : ∃ cv, ClsV u cv ∧ PySem.W.kitOne K (.ref (Γ.c n)) cv = some b := by
        rcases hk with ⟨T, rfl, k⟩ | ⟨m, rfl, k⟩
        · cases ru
          exact ⟨_, .ty T, k⟩
        · cases ru
          rw [hg]
          exact ⟨_, .own _, k⟩
      obtain ⟨cv, k1, k2⟩ := hc
      cases rv with
      | exn h1 =>
        rw [hg] at h1
        exact .inl ⟨_, _, _, _, _, b, rfl, w.x _ _ h1, fun dd z => (nomatch z), X, k1, k2, h.ok w (.bl _)⟩
      | exd h1 h2 _ =>
        rw [hg] at h1
        exact .inl ⟨_, _, _, _, _, b, rfl, w.x _ _ h1, fun dd z => by cases z; exact ⟨_, w.x _ _ h2⟩, X, k1, k2, h.ok w (.bl _)⟩
    · exact h.elim
  · obtain ⟨v, u, rfl, rv, ru⟩ := r.two
    split at h
    · exact h.elim
    · rename_i d T hx hn
      split at h
      · rename_i b e
        cases ru
        exact .inr ⟨_, _, _, _, b, rfl, .ty T, rv.tyx2 w hn, kit_ty e, h.ok w (.bl _)⟩
      · exact h.elim
  · exact h.elim
/-! ### fields of errors -/
def fldX (no : Nat → Str → Bool) (f : Str) (d : Dt) (μ : Mem) : R Dt := match d with
  | .exc n ns es => if no n f = true then (match (ns.zip es).lookup f with
    | some d => .ok d μ
    | none => .no) else .no
  | _ => .no
def NoOk (K : PySem.W.Frag) (Γ : Gm) (no : Nat → Str → Bool) : Prop := ∀ n f, no n f = true → ExC K (Γ.c n) ∧ PySem.W.findIn K (.ref (Γ.c n)) f = some none
theorem zip_look {ω : Wd} {f : Str} {d : Dt} : ∀ {ns : List Str} {vs : List V} {ds : List Dt}, RpL ω vs ds → (ns.zip ds).lookup f = some d → ∃ v, (ns.zip vs).lookup f = some v ∧ Rp ω v d
  | [], vs, ds, _, h => by simp at h
  | n :: ns, _, _, .nil, h => by simp at h
  | n :: ns, _, _, .cons a r, h => by
    rw [List.zip_cons_cons, List.lookup_cons] at h
    rw [List.zip_cons_cons, List.lookup_cons]
    cases e : (f == n) with
    | true =>
      rw [e] at h
      cases h
      exact ⟨_, rfl, a⟩
    | false =>
      rw [e] at h
      exact zip_look r h
section
variable {Γ : Gm} {W : WX} {K : PySem.W.Frag} {ta : TE} {ma : MX} {ts tk : TA} {ms mk : MA}
theorem ev_xf {no : Nat → Str → Bool} {f : Str} (hno : NoOk K Γ no) (ha : EV Γ W ta ma) : EV Γ W (tXfK K f ta) (mUn (fldX no f) ma) := fun σ H Q ⟨ω, δ, μ, hg, he, hw, h⟩ =>
  ha σ H _ ⟨ω, δ, μ, hg, he, hw, GoE.split (f := fldX no f) h fun a μ1 x ω1 H1 l1 w1 r1 h1 => by
    cases a with
    | exc n ns es =>
      unfold fldX at h1
      dsimp only at h1
      split at h1
      · rename_i hn
        split at h1
        · rename_i d e
          obtain ⟨X, hf⟩ := hno n f hn
          have hg1 := l1.g.trans hg
          cases r1 with
          | exn _ => simp at e
          | exd k1 k2 r =>
            rw [hg1] at k1
            obtain ⟨v, hv, rv⟩ := zip_look r e
            exact ⟨_, _, _, _, v, rfl, X, hf, w1.x _ _ k1, w1.x _ _ k2, hv, h1.ok w1 rv⟩
        · exact h1.elim
      · exact h1.elim
    | _ => exact h1.elim⟩
/-! ### calls -/
def pm (idx : List Nat) {α : Type} (l : List α) : List α := idx.filterMap fun i => l[i]?
theorem pm_rp {ω : Wd} {vs : List V} {ds : List Dt} (r : RpL ω vs ds) : ∀ idx : List Nat, RpL ω (pm idx vs) (pm idx ds)
  | [] => .nil
  | i :: idx => by
    unfold pm
    rw [List.filterMap_cons, List.filterMap_cons]
    have ih := pm_rp r idx
    cases e : ds[i]? with
    | none =>
      have : vs[i]? = none := by
        rw [List.getElem?_eq_none_iff] at e ⊢
        rw [r.len]
        exact e
      rw [this]
      exact ih
    | some d =>
      obtain ⟨v, hv, rv⟩ := r.get e
      rw [hv]
      exact .cons rv ih
theorem pm_vals {vs : List V} {us : List Value} (r : Vals vs us) : ∀ idx : List Nat, Vals (pm idx vs) (pm idx us)
  | [] => .nil
  | i :: idx => by
    unfold pm
    rw [List.filterMap_cons, List.filterMap_cons]
    have ih := pm_vals r idx
    cases e : vs[i]? with
    | none =>
      rw [r.none_of e]
      exact ih
    | some d =>
      obtain ⟨v, hv, rv⟩ := r.get e
      rw [hv]
      exact .cons rv ih
/-- what a def promises: it does as the function f of data -/
def FM (Γ : Gm) (f : List Dt → Mem → R Dt) : Sp := fun vs H Q E => ∃ ω ds μ, ω.Γ = Γ ∧ RpL ω vs ds ∧ WR ω μ H ∧ GoE Rp (fun cls d _ H => E cls d H) ω [] (f ds μ) Q
def mCall (n m : Nat) (f : List Dt → Mem → R Dt) (idx : List Nat) (md : List Dt) (a k : MA) : MX := fun δ μ => (a δ μ).bind fun ds μ1 => (k δ μ1).bind fun es μ2 => if ds.length = n ∧ es.length = m then f (pm idx (ds ++ md ++ es)) μ2 else .no
theorem ev_call {n m : Nat} {f : List Dt → Mem → R Dt} {idx : List Nat} {vd : List V} {md : List Dt} (hd : ∀ ω : Wd, ω.Γ = Γ → RpL ω vd md) (ha : AV Γ W ts ms) (hk : AV Γ W tk mk) :
    EV Γ W (tCallNS n m (FM Γ f) (fun vs zs => pm idx (vs ++ vd ++ zs)) (WE W) ts tk) (mCall n m f idx md ms mk) := fun σ H Q ⟨ω, δ, μ, hg, he, hw, h⟩ =>
  ha σ H _ ⟨ω, δ, μ, hg, he, hw, h.split fun ds μ1 vs ω1 H1 l1 w1 r1 h1 => hk σ H1 _ ⟨ω1, δ, μ1, l1.g.trans hg, he.mono l1, w1, h1.split fun es μ2 zs ω2 H2 l2 w2 r2 h2 => by
    split at h2
    · rename_i hl
      have hg2 := l2.g.trans (l1.g.trans hg)
      refine ⟨by rw [r1.len]; exact hl.1, by rw [r2.len]; exact hl.2, ω2, _, μ2, hg2, pm_rp (((r1.mono l2).app (hd ω2 hg2)).app r2) idx, w2, ?_⟩
      revert h2
      cases f (pm idx (ds ++ md ++ es)) μ2 with
      | ok d μ => exact fun h2 => h2
      | ex n ns es μ => exact fun h2 => h2
      | no => exact fun h2 => h2
    · exact h2.elim⟩⟩
end
/-- a def of the text, as it promises -/
structure DefM (P : Program) (w : World) (K : PySem.W.Frag) (mg : Str → Option Value) (base : Heap) (x : Str) (st : Stmt) (k : Nat) (ps : List Str) (kws : List (Str × V)) (sp : Sp) : Prop where
  ex : ∃ f fd, FunD K x x (defArgs st) (defBody st) (defScope st) [] kws f fd ∧ FnOk P w K mg base (L2.CX P w) k f fd ps sp ∧ mg x = some (.ref f)
section
variable {X : Cx} {k n : Nat} {ps ks : List Str} {sp : Sp} {x : Str} {p pos : Pos} {e : Expr} {es : List Expr} {kws : List Keyword} {t tk : TA} {st : Stmt} {kd : List (Str × V)} {W : WX}
theorem pe_dM (D : DefM X.prog X.w X.K X.mg X.base x st k ps kd sp) (n : Nat) (ks : List Str) (ms : List (Str × V)) (idx : List Nat) (hms : ∀ q ∈ ms, q ∈ kd)
    (h : ∀ (dk doc pm' : Value) (D : Addr) (an : Option Addr) (cdv ct : Value) (us mv ws : List Value), (kd ≠ [] → dk = .ref D) → us.length = n → mv.length = ms.length → ws.length = ks.length →
      KwChain D ((ms.map (·.1)).zip mv) (bindArgs (PySem.W.fnOf x x (defArgs st) (defBody st) (defScope st) .none dk doc pm' an cdv ct) ⟨us, ks.zip ws⟩) (ps.zip (pm idx (us ++ mv ++ ws))))
    (hr : Room k X.A) (tk' : Takes X W) (hg : Gl X x) (ha : PA X (e :: es) t) (hkw : PK X kws tk) (hall : (backToKw pos (keywordEach kws X.env)).all (·.1.isSome) = true := by rfl) (hks : (backToKw pos (keywordEach kws X.env)).filterMap (·.1) = ks := by rfl)
    (hdb : (x == ("__debug__" : Str)) = false := by decide) (he : starEach (e :: es) X.env = (false, eval e X.env) :: starEach es X.env := by rfl)
    (hpl : ((backTo pos (starEach (e :: es) X.env)).any (·.1) || (backToKw pos (keywordEach kws X.env)).any (·.1.isNone)) = false := by rfl) :
    PE X (.Call (.Name x p) (e :: es) kws pos) (tCallNS n ks.length sp (fun vs zs => pm idx (vs ++ ms.map (·.2) ++ zs)) (WE W) t tk) := by
  obtain ⟨f, fd, F, G, gm⟩ := D.ex
  obtain ⟨mv, hb⟩ := FunD.kbinds0 F n ks ms (fun us ms ws => pm idx (us ++ ms ++ ws)) hms (fun r1 r2 r3 => pm_vals ((r1.append r2).append r3) idx) h
  exact pe_callNS G hr hg gm F.kp hb (fun σ => passAt tk' σ) ha hkw hall hks hdb he hpl
theorem pe_dM0 (D : DefM X.prog X.w X.K X.mg X.base x st k ps kd sp) (ks : List Str) (ms : List (Str × V)) (idx : List Nat) (hms : ∀ q ∈ ms, q ∈ kd)
    (h : ∀ (dk doc pm' : Value) (D : Addr) (an : Option Addr) (cdv ct : Value) (us mv ws : List Value), (kd ≠ [] → dk = .ref D) → us.length = 0 → mv.length = ms.length → ws.length = ks.length →
      KwChain D ((ms.map (·.1)).zip mv) (bindArgs (PySem.W.fnOf x x (defArgs st) (defBody st) (defScope st) .none dk doc pm' an cdv ct) ⟨us, ks.zip ws⟩) (ps.zip (pm idx (us ++ mv ++ ws))))
    (hr : Room k X.A) (tk' : Takes X W) (hg : Gl X x) (hkw : PK X kws tk) (hall : (backToKw pos (keywordEach kws X.env)).all (·.1.isSome) = true := by rfl) (hks : (backToKw pos (keywordEach kws X.env)).filterMap (·.1) = ks := by rfl)
    (hdb : (x == ("__debug__" : Str)) = false := by decide)
    (hpl : ((backTo pos (starEach [] X.env)).any (·.1) || (backToKw pos (keywordEach kws X.env)).any (·.1.isNone)) = false := by rfl) :
    PE X (.Call (.Name x p) [] kws pos) (tCallNS 0 ks.length sp (fun vs zs => pm idx (vs ++ ms.map (·.2) ++ zs)) (WE W) tNil tk) := by
  obtain ⟨f, fd, F, G, gm⟩ := D.ex
  obtain ⟨mv, hb⟩ := FunD.kbinds0 F 0 ks ms (fun us ms ws => pm idx (us ++ ms ++ ws)) hms (fun r1 r2 r3 => pm_vals ((r1.append r2).append r3) idx) h
  exact pe_callNS0 G hr hg gm F.kp hb (fun σ => passAt tk' σ) hkw hall hks hdb hpl
theorem pe_dMP (D : DefM X.prog X.w X.K X.mg X.base x st k ps kd sp) (n : Nat) (ms : List (Str × V)) (idx : List Nat) (hms : ∀ q ∈ ms, q ∈ kd)
    (h : ∀ (dk doc pm' : Value) (D : Addr) (an : Option Addr) (cdv ct : Value) (us mv ws : List Value), (kd ≠ [] → dk = .ref D) → us.length = n → mv.length = ms.length → ws.length = 0 →
      KwChain D ((ms.map (·.1)).zip mv) (bindArgs (PySem.W.fnOf x x (defArgs st) (defBody st) (defScope st) .none dk doc pm' an cdv ct) ⟨us, []⟩) (ps.zip (pm idx (us ++ mv ++ ws))))
    (hr : Room k X.A) (tk' : Takes X W) (hg : Gl X x) (ha : PA X (e :: es) t)
    (hdb : (x == ("__debug__" : Str)) = false := by decide) (he : starEach (e :: es) X.env = (false, eval e X.env) :: starEach es X.env := by rfl) (hpl : (backTo pos (starEach es X.env)).any (·.1) = false := by rfl) :
    PE X (.Call (.Name x p) (e :: es) [] pos) (tCallNS n 0 sp (fun vs zs => pm idx (vs ++ ms.map (·.2) ++ zs)) (WE W) t tNil) := by
  obtain ⟨f, fd, F, G, gm⟩ := D.ex
  obtain ⟨mv, hb⟩ := FunD.kbinds0 F n [] ms (fun us ms ws => pm idx (us ++ ms ++ ws)) hms (fun r1 r2 r3 => pm_vals ((r1.append r2).append r3) idx) (fun dk doc pm D an cdv ct us mv ws => h dk doc pm D an cdv ct us mv ws)
  exact pe_callNP G hr hg gm F.kp hb (fun σ => passAt tk' σ) ha hdb he hpl
end
/-! ### a def's own -/
def O.out (o : O) : R Dt := match o with
  | .nx _ μ' => .ok .non μ'
  | .rt d μ' => .ok d μ'
  | .ex n ns es _ μ' => .ex n ns es μ'
  | _ => .no
@[simp] theorem out_nx {δ : Env} {μ : Mem} : (O.nx δ μ).out = .ok .non μ := rfl
@[simp] theorem out_rt {d : Dt} {μ : Mem} : (O.rt d μ).out = .ok d μ := rfl
@[simp] theorem out_ex {n : Nat} {ns : List Str} {es : List Dt} {δ : Env} {μ : Mem} : (O.ex n ns es δ μ).out = .ex n ns es μ := rfl
def mDef (N np : Nat) (b : MS) : List Dt → Mem → R Dt := fun ds μ => if ds.length = np then (b (ds.map some ++ List.replicate (N - np) none) μ).out else .no
theorem mDef_eq {N np : Nat} {b : MS} {ds : List Dt} {μ : Mem} (h : ds.length = np) : mDef N np b ds μ = (b (ds.map some ++ List.replicate (N - np) none) μ).out := if_pos h
section
variable {P : Program} {w : World} {K : PySem.W.Frag} {mg : Str → Option Value} {base : Heap}
theorem okM {Γ : Gm} {x : Str} {st : Stmt} {f : Addr} {fd : FuncData} {N ps : List Str} {k : Nat} {b : MS} {kws : List (Str × V)} (F : FunD K x x (defArgs st) (defBody st) (defScope st) [] kws f fd) (S : FnScope N ps (defScope st))
    (hbody : ∀ (cdv : Value) (A : Around) (outer : List PySem.Env) (s : Shared) (H : Hp) (E : XK), Room k (A.deeper (envOfC x (defScope st) s.heap.objs.size f cdv)) →
      ∃ t, PSs (cxOf (L2.CX P w) P w K mg base N x (defScope st) f cdv A outer s H E) (defBody st) t ∧ SV Γ (fun cls d _ H => E cls d H) t b) :
    FnOk P w K mg base (L2.CX P w) (k + 1) f fd ps (FM Γ (mDef N.length ps.length b)) :=
  F.ok S (fun vs H Q E ⟨ω, ds, μ, hg, r, hw, h⟩ => by
    unfold mDef at h
    split at h
    · rename_i hl
      rw [r.len]
      exact hl
    · exact h.elim) fun cdv A outer s H vs Q E hr ⟨ω, ds, μ, hg, r, hw, h⟩ => by
    obtain ⟨t, h1, hq⟩ := hbody cdv A outer s H E hr
    refine ⟨t, h1, hq _ _ H ⟨ω, _, μ, hg, EnvR.start r N, hw, ?_⟩⟩
    unfold mDef at h
    split at h
    · rename_i hl
      rw [← hl] at h
      revert h
      cases b (ds.map some ++ List.replicate (N.length - ds.length) none) μ with
      | nx δ' μ' => exact fun h σ' ω' H' l w' e' => h .non ω' H' l w' .non
      | rt d μ' => exact fun h => h
      | bk δ' μ' => exact fun h => h.elim
      | ct δ' μ' => exact fun h => h.elim
      | ex n ns es δ' μ' => exact fun h dd σ' ω' H' l w' e' x => h dd ω' H' l w' x
      | no => exact fun h => h
    · exact h.elim
theorem funD_of {x : Str} {st : Stmt} {f : Addr} {fd : FuncData} (F : Fun K x x st f fd) : FunD K x x (defArgs st) (defBody st) (defScope st) [] [] f fd := by
  obtain ⟨oc, od, kV, doc, pm, an, cdv, ct, osl, rfl, lk, hcd⟩ := F.ex
  exact ⟨⟨oc, od, _, kV, doc, pm, an, cdv, ct, osl, rfl, lk, hcd, .inl ⟨rfl, rfl⟩, .inl rfl⟩, F.kp⟩
theorem funD_mk {x : Str} {st : Stmt} {f D : Addr} {oc : Value} {od an : Option Addr} {osl : Array (Option Value)} {doc pm cdv ct : Value} {kws : List (Str × V)} (l : K.lookup f = some ⟨oc, od, .func (PySem.W.fnOf x x (defArgs st) (defBody st) (defScope st) .none (.ref D) doc pm an cdv ct), osl⟩)
    (c : PySem.W.codeIn K cdv x = true) (k : PySem.W.keepIn K (.ref f) = true) (h : ∀ q ∈ kws, ∃ u, PySem.W.nsIn K D q.1 = some (some u) ∧ RelV q.2 u) :
    FunD K x x (defArgs st) (defBody st) (defScope st) [] kws f (PySem.W.fnOf x x (defArgs st) (defBody st) (defScope st) .none (.ref D) doc pm an cdv ct) :=
  ⟨⟨oc, od, _, _, doc, pm, an, cdv, ct, osl, rfl, l, c, .inl ⟨rfl, rfl⟩, .inr ⟨D, rfl, h⟩⟩, k⟩
/-- a def that lets nothing out -/
theorem FnOk.to0 {k : Nat} {f : Addr} {fd : FuncData} {ps : List Str} {sp sp' : Sp} (F : FnOk P w K mg base (L2.CX P w) k f fd ps sp) (h : ∀ vs H Q E, sp' vs H Q E → sp vs H Q E0) : FnOk P w K mg base CX0 k f fd ps sp' where
  len := fun vs H Q E q => F.len vs H Q E0 (h vs H Q E q)
  run := fun A outer s H args us vs Q E hr e0 hb r q => codeAny_mono (F.run A outer s H args us vs Q E0 hr e0 hb r (h vs H Q E q)) fun res s' z => by
    cases res with
    | error e =>
      obtain ⟨_, _, _, _, _, _, _, _, _, _, _, _, zz⟩ := (show L2.CX P w outer H s E0 e s' from z)
      exact zz.elim
    | ok fl => cases fl <;> exact z
end
/-! ### raise, try -/
def sRaise0 (n : Nat) : MS := fun δ μ => .ex n [] [] δ μ
section
variable {Γ : Gm} {W : WX} {K : PySem.W.Frag}
theorem sv_raise0 {n : Nat} : SV Γ W (fun _ σ H => (fun _ H (Q : XK) => Q (.ref (Γ.c n)) none H) σ H fun cls d H' => W cls d σ H') (sRaise0 n) := fun D σ H ⟨ω, δ, μ, hg, he, hw, h⟩ => by
  subst hg
  exact h none σ ω H (Le.refl _) hw he (.inl ⟨rfl, rfl, rfl⟩)
def sTry (cq : Nat → Option Bool) (i : Nat) (b s : MS) : MS := fun δ μ => match b δ μ with
  | .ex n ns es δ' μ' => match cq n with
    | some true => (match s (δ'.set i (some (.exc n ns es))) μ' with
      | .nx δ2 μ2 => .nx (δ2.set i none) μ2
      | .bk δ2 μ2 => .bk (δ2.set i none) μ2
      | .ct δ2 μ2 => .ct (δ2.set i none) μ2
      | .rt d μ2 => .rt d μ2
      | _ => .no)
    | some false => .ex n ns es δ' μ'
    | none => .no
  | o => o
theorem RX.rp {ω : Wd} {d : Option Addr} {a : Addr} {n : Nat} {ns : List Str} {es : List Dt} (r : RX ω d ns es) (h : ω.B a = some (exK (.ref (ω.Γ.c n)) d a)) : Rp ω (.ref a) (.exc n ns es) := by
  rcases r with ⟨rfl, rfl, rfl⟩ | ⟨dd, vs, rfl, r2, r3⟩
  · exact .exn h
  · exact .exd h r2 r3
theorem RX.mono {ω ω' : Wd} {d : Option Addr} {ns : List Str} {es : List Dt} (r : RX ω d ns es) (l : Le ω ω') : RX ω' d ns es := by
  rcases r with r | ⟨dd, vs, r1, r2, r3⟩
  · exact .inl r
  · exact .inr ⟨dd, vs, r1, l.b _ _ r2, r3.mono l⟩
theorem sv_try {cv : Value} {cq : Nat → Option Bool} {i : Nat} {tb : WX → TS} {ts : TS} {b s : MS} (hq : ∀ n k, cq n = some k → PySem.W.exmOne K (.ref (Γ.c n)) cv = some k) (hb : ∀ W, SV Γ W (tb W) b) (hs : SV Γ W0 ts s) :
    SV Γ W (fun D σ H => tb (wKeep K cv i ts W D) D σ H) (sTry cq i b s) := fun D σ H ⟨ω, δ, μ, hg, he, hw, h⟩ => hb _ D σ H ⟨ω, δ, μ, hg, he, hw, by
  unfold sTry at h
  cases eb : b δ μ with
  | nx δ' μ' => rw [eb] at h; exact h
  | rt d μ' => rw [eb] at h; exact h
  | bk δ' μ' => rw [eb] at h; exact h
  | ct δ' μ' => rw [eb] at h; exact h
  | no => rw [eb] at h; exact h
  | ex n ns es δ' μ' =>
    rw [eb] at h
    intro dd σ' ω' H' l w e x
    cases ec : cq n with
    | none =>
      simp only [ec] at h
      exact h.elim
    | some k =>
      simp only [ec] at h
      refine ⟨k, by rw [hg]; exact hq n k ec, fun hk a na => ?_, fun hk => ?_⟩
      · subst hk
        obtain ⟨l2, w2⟩ := w.newB (u := exK (.ref (ω.Γ.c n)) dd a) na
        have r2 : Rp { ω' with B := upd ω'.B a (exK (.ref (ω.Γ.c n)) dd a) } (.ref a) (.exc n ns es) := (x.mono l2).rp (by rw [show ({ ω' with B := upd ω'.B a (exK (.ref (ω.Γ.c n)) dd a) } : Wd).Γ = ω.Γ from l.g]; exact upd_same)
        refine hs _ _ _ ⟨_, _, _, (l.trans l2).g.trans hg, (e.mono l2).set i r2, w2, ?_⟩
        have h : GoS W ω (match s (δ'.set i (some (.exc n ns es))) μ' with
          | .nx δ2 μ2 => .nx (δ2.set i none) μ2
          | .bk δ2 μ2 => .bk (δ2.set i none) μ2
          | .ct δ2 μ2 => .ct (δ2.set i none) μ2
          | .rt d μ2 => .rt d μ2
          | _ => .no) D := h
        have h := GoS.mono h (l.trans l2)
        revert h
        cases s (δ'.set i (some (.exc n ns es))) μ' with
        | nx δ2 μ2 => exact fun h σ3 ω3 H3 l3 w3 e3 => h _ ω3 H3 l3 w3 (e3.unset i)
        | bk δ2 μ2 => exact fun h σ3 ω3 H3 l3 w3 e3 => h _ ω3 H3 l3 w3 (e3.unset i)
        | ct δ2 μ2 => exact fun h σ3 ω3 H3 l3 w3 e3 => h _ ω3 H3 l3 w3 (e3.unset i)
        | rt d μ2 => exact fun h => h
        | ex n ns es δ2 μ2 => exact fun h => h.elim
        | no => exact fun h => h.elim
      · subst hk
        exact h dd σ' ω' H' l w e x⟩
end
end DM

set_option linter.all false
set_option maxRecDepth 100000
set_option maxHeartbeats 4000000
/-! DM6: the rules whose readings name the written part K, with K told. -/
namespace DM
open PySem PySem.Spec PyProof.Rows L2
/-- a module's constant -/
def GC (mg : Str → Option Value) (x : Str) (v : V) : Prop := ∃ u, mg x = some u ∧ RelV v u
theorem pe_gc {X : Cx} {x : Str} {v : V} {pos : Pos} (h : GC X.mg x v) (hg : Gl X x) (hd : (x == ("__debug__" : Str)) = false := by decide) : PE X (.Name x pos) (tC v) := by
  obtain ⟨u, hm, r⟩ := h
  exact pe_glob hg hm r hd
section
variable {X : Cx} {K : PySem.W.Frag}
theorem k_isiT (hK : X.K = K) : CallR X (.builtin "isinstance") (rIsiT K) := hK ▸ call_isiT
theorem k_ix (hK : X.K = K) : IxR X (rIx K) := hK ▸ ix_seq
theorem k_sortedS (hK : X.K = K) : CallR X (.builtin "sorted") (rSortedS K) := hK ▸ cr_sortedS
theorem k_pi_list (hK : X.K = K) {tg l : Expr} {tl : TE} (hl : PE X l tl) : PI X tg l (iList K tl) := hK ▸ pi_list hl
theorem k_pi_tup (hK : X.K = K) {tg l : Expr} {tl : TE} (hl : PE X l tl) : PI X tg l (iTup K tl) := hK ▸ pi_tup hl
theorem k_pg_tup (hK : X.K = K) {es : List Expr} {k : Nat} {t : TGs} {n : Nat} {pos : Pos} (hc : X.calm = true) (h : PGs X es t)
    (hn : (assignEach es X.env).length = n := by rfl) (hst : (assignEach es X.env).findIdx? (·.1) = none := by rfl) : PG X (.Tuple es k pos) (gTup K n t) := hK ▸ pg_tup hc h hn hst
theorem k_pg_unl (hK : X.K = K) {es : List Expr} {k : Nat} {t : TGs} {n : Nat} {pos : Pos} (hc : X.calm = true) (h : PGs X es t)
    (hn : (assignEach es X.env).length = n := by rfl) (hst : (assignEach es X.env).findIdx? (·.1) = none := by rfl) : PG X (.Tuple es k pos) (gUnl K n t) := hK ▸ pg_unl hc h hn hst
theorem k_fld (hK : X.K = K) {e : Expr} {f : Str} {pos : Pos} {ta : TE} (he : PE X e ta) (hb : attributeBase e f X.env (eval e X.env) = eval e X.env) : PE X (.Attribute e f pos) (tFld K ta f) := hK ▸ pe_fld he hb
theorem k_sfld (hK : X.K = K) {o value : Expr} {f : Str} {pos pos' : Pos} {ta tv : TE} (ha : PE X o ta) (hv : PE X value tv) (hs : swapsWith value (some (.Attribute o f pos')) pos.line X.env = pure false) : PS X (.Assign [.Attribute o f pos'] value pos) (sFld K ta tv f) := hK ▸ ps_fld ha hv hs
theorem k_pi_zip (hK : X.K = K) {e e2 : Expr} {ta : TA} {p pos tpos : Pos} {elts : List Expr} {kk : Nat} (hg : Gl X "zip") (hm : X.mg "zip" = none) (ha : PA X [e, e2] ta)
    (hs : starEach [e, e2] X.env = (false, eval e X.env) :: starEach [e2] X.env := by rfl) (hpl : (backTo pos (starEach [e2] X.env)).any (·.1) = false := by rfl) :
    PI X (.Tuple elts kk tpos) (.Call (.Name "zip" p) [e, e2] [] pos) (iZip K ta) := hK ▸ pi_zip hg hm ha hs hpl
theorem k_pi_enum (hK : X.K = K) {e : Expr} {ta : TA} {p pos tpos : Pos} {elts : List Expr} {kk : Nat} (hg : Gl X "enumerate") (hm : X.mg "enumerate" = none) (ha : PA X [e] ta) (hs : starEach [e] X.env = [(false, eval e X.env)] := by rfl) :
    PI X (.Tuple elts kk tpos) (.Call (.Name "enumerate" p) [e] [] pos) (iEnum K ta) := hK ▸ pi_enum hg hm ha hs
variable {o e : Expr} {es : List Expr} {to : TE} {t : TA} {name : Str} {apos cpos : Pos} {T id : String} {r : V → List V → Hp → VK → Prop}
theorem k_bm0 (hK : X.K = K) (pa : PlainAttrs T) (slot : Slot T name id) (hty : typeOf (.builtin id) = pure (.type "method_descriptor")) (hm : MtR X id r) (ho : PE X o to)
    (hbase : attributeBase o name X.env (eval o X.env) = eval o X.env := by rfl) (hline : (apos.endLine == cpos.line) = true := by rfl) : PE X (.Call (.Attribute o name apos) [] [] cpos) (tBM0 K T r to) := hK ▸ pe_bm0 pa slot hty hm ho hbase hline
theorem k_bm (hK : X.K = K) (pa : PlainAttrs T) (slot : Slot T name id) (hty : typeOf (.builtin id) = pure (.type "method_descriptor")) (hm : MtR X id r) (ho : PE X o to) (ha : PA X (e :: es) t)
    (hbase : attributeBase o name X.env (eval o X.env) = eval o X.env := by rfl)
    (hfew : ((backTo cpos (starEach (e :: es) X.env)).all (fun x => !x.1) && (backToKw cpos (keywordEach [] X.env)).all (fun x => x.1.isSome)
      && decide ((e :: es).length + ([] : List Keyword).length + (if ([] : List Keyword).isEmpty then 0 else 1) < 30)) = true := by rfl)
    (hline : (apos.endLine == cpos.line) = true := by rfl) (hs : starEach (e :: es) X.env = (false, eval e X.env) :: starEach es X.env := by rfl) (hplain : (backTo cpos (starEach es X.env)).any (·.1) = false := by rfl) :
    PE X (.Call (.Attribute o name apos) (e :: es) [] cpos) (tBM K T r to t) := hK ▸ pe_bm pa slot hty hm ho ha hbase hfew hline hs hplain
end
/-- such a table, by rows -/
def tabOf (xs : List Nat) (os : List (Nat × Nat × Bool)) (ts : List (Nat × String × Bool)) : Tab := fun n c => match c with
  | .cls m => (os.find? fun r => r.1 == n && r.2.1 == m).map (·.2.2)
  | .ty T => (ts.find? fun r => r.1 == n && r.2.1 == T).map (·.2.2)
  | _ => none
theorem tabOf_ok {K : PySem.W.Frag} {Γ : Gm} {xs : List Nat} {os : List (Nat × Nat × Bool)} {ts : List (Nat × String × Bool)} (h : ∀ n, n ∈ xs → ExC K (Γ.c n)) (h1 : ∀ r ∈ os, r.1 ∈ xs ∧ PySem.W.kitOne K (.ref (Γ.c r.1)) (.ref (Γ.c r.2.1)) = some r.2.2) (h2 : ∀ r ∈ ts, r.1 ∈ xs ∧ PySem.W.kitOne K (.ref (Γ.c r.1)) (.type r.2.1) = some r.2.2) : TabOk K Γ (tabOf xs os ts) := fun n c b e => by
  unfold tabOf at e
  split at e
  · rename_i m
    obtain ⟨r, hr, rfl⟩ := Option.map_eq_some_iff.mp e
    have hm := List.mem_of_find?_eq_some hr
    have hp := List.find?_some hr
    rw [Bool.and_eq_true] at hp
    obtain ⟨k1, k2⟩ := h1 r hm
    have e1 : r.1 = n := by simpa using hp.1
    have e2 : r.2.1 = m := by simpa using hp.2
    rw [e1] at k1 k2
    rw [e2] at k2
    exact ⟨h n k1, .inr ⟨m, rfl, k2⟩⟩
  · rename_i m
    obtain ⟨r, hr, rfl⟩ := Option.map_eq_some_iff.mp e
    have hm := List.mem_of_find?_eq_some hr
    have hp := List.find?_some hr
    rw [Bool.and_eq_true] at hp
    obtain ⟨k1, k2⟩ := h2 r hm
    have e1 : r.1 = n := by simpa using hp.1
    have e2 : r.2.1 = m := by simpa using hp.2
    rw [e1] at k1 k2
    rw [e2] at k2
    exact ⟨h n k1, .inl ⟨m, rfl, k2⟩⟩
  · cases e
/-- xs[i] = e -/
def stSub (δ : Env) (v ov iv : Dt) (μ3 : Mem) : O := match ov, iv with
  | .ptr p, .int k => match μ3[p]? with
    | some (.lst ds) => match ixN ds.length k with
      | some j => .nx δ (μ3.set p (.lst (ds.set j v)))
      | none => .no
    | _ => .no
  | _, _ => .no
def sSub (a o i : MX) : MS := fun δ μ => (a δ μ).thn δ fun v μ1 => (o δ μ1).thn δ fun ov μ2 => (i δ μ2).thn δ fun iv μ3 => stSub δ v ov iv μ3
theorem sv_sub {Γ : Gm} {W : WX} {ta to ti : TE} {ma mo mi : MX} (ha : EV Γ W ta ma) (ho : EV Γ W to mo) (hi : EV Γ W ti mi) : SV Γ W (tAsg ta (gSub to ti rSetL)) (sSub ma mo mi) := fun D σ H ⟨ω, δ, μ, hg, he, hw, h⟩ =>
  ha σ H _ ⟨ω, δ, μ, hg, he, hw, GoE.splitS (f := fun v μ1 => (mo δ μ1).thn δ fun ov μ2 => (mi δ μ2).thn δ fun iv μ3 => stSub δ v ov iv μ3) he h fun v μ1 x ω1 H1 l1 w1 r1 h1 => ho σ H1 _ ⟨ω1, δ, μ1, l1.g.trans hg, he.mono l1, w1,
    GoE.splitS (f := fun ov μ2 => (mi δ μ2).thn δ fun iv μ3 => stSub δ v ov iv μ3) (he.mono l1) h1 fun ov μ2 y ω2 H2 l2 w2 r2 h2 => hi σ H2 _ ⟨ω2, δ, μ2, l2.g.trans (l1.g.trans hg), (he.mono l1).mono l2, w2,
    GoE.splitS (f := fun iv μ3 => stSub δ v ov iv μ3) ((he.mono l1).mono l2) h2 fun iv μ3 z ω3 H3 l3 w3 r3 h3 => by
    unfold stSub at h3
    split at h3
    · rename_i p k
      split at h3
      · rename_i ds e
        split at h3
        · rename_i j ej
          cases r2 with
          | ptr hb =>
            cases r3
            obtain ⟨hB, xs, hx, rx⟩ := w3.at_ _ _ _ (l3.a _ _ hb) e
            refine ⟨_, xs, k, j, rfl, rfl, hx, by rw [rx.len]; exact ej, ?_⟩
            exact h3 σ ω3 _ (Le.refl _) (w3.put (l3.a _ _ hb) hB ⟨hB, _, upd_same, rx.set j ((r1.mono l2).mono l3)⟩) (((he.mono l1).mono l2).mono l3)
        · exact h3.elim
      · exact h3.elim
    · exact h3.elim⟩⟩⟩
/-! ### the head -/
def spLaw (K : PySem.W.Frag) : Sp := fun vs H Q _ => ∃ (a : Addr) (ns : List Int), vs = [.ref a] ∧ SqL K H a (ns.map V.int) ∧ ns.length ≤ 63 ∧ ∀ H', Q (.bl true) H'
theorem RpL.ints {ω : Wd} : ∀ (ys : List Int), RpL ω (ys.map V.int) (ys.map Dt.int)
  | [] => .nil
  | y :: ys => .cons (.int y) (RpL.ints ys)
theorem FnOk.law {P : Program} {w : World} {Γ : Gm} {mg : Str → Option Value} {base : Heap} {CX : CXT} {k : Nat} {f : Addr} {fd : FuncData} {ps : List Str} {m : List Dt → Mem → R Dt} (F : FnOk P w Γ.K mg base CX k f fd ps (FM Γ m))
    (h : ∀ ns : List Int, ns.length ≤ 63 → ∃ μ, m [.scr (ns.map Dt.int)] [] = .ok (.bl true) μ) : FnOk P w Γ.K mg base CX k f fd ps (spLaw Γ.K) := by
  have key : ∀ vs H Q E, spLaw Γ.K vs H Q E → FM Γ m vs H Q E := fun vs H Q E ⟨a, ns, e, hS, hl, q⟩ => by
    subst e
    obtain ⟨μ, hm⟩ := h ns hl
    refine ⟨⟨Γ, [], H, fun _ => none⟩, [.scr (ns.map Dt.int)], [], rfl, .cons (.scr ?_ (RpL.ints ns)) .nil, ⟨Same.refl H, rfl, fun i j a h => by simp at h, fun i a o h => by simp at h, fun a o e => (nomatch e), fun i a h => rfl, fun a o e => (nomatch e)⟩, ?_⟩
    · rcases hS with (h | ⟨o, h⟩) | h
      · exact .inl ⟨⟨.none, none, .plain, #[]⟩, .inl h⟩
      · exact .inl ⟨o, .inr h⟩
      · exact .inr h
    · rw [hm]
      intro v ω' H' _ _ r
      cases r
      exact q H'
  exact ⟨fun vs H Q E q => F.len vs H Q E (key vs H Q E q), fun A outer s H args us vs Q E hr e0 hb r q => F.run A outer s H args us vs Q E hr e0 hb r (key vs H Q E q)⟩
theorem exC_mk {K : PySem.W.Frag} {D : Addr} (cl : PySem.W.isClsIn K D = true) (hg : PySem.W.findIn K (.ref D) "__getattribute__" = some (some (.builtin "BaseException.__getattribute__"))) (hk : PySem.W.findIn K (.ref D) "__getattr__" = some none)
    (hs : PySem.W.subIn K (.ref D) (.type "BaseException") = some true) (hd : PySem.W.hasDictIn K D = true) (ha : PySem.W.findIn K (.ref D) "__class__" = some (some (.builtin "object.__class__")))
    (hn : PySem.W.specialIn K (.builtin "object.__class__") "__get__" = some (some (.builtin "getset_descriptor.__get__"))) (ht : PySem.W.takesIn K (.builtin "object.__class__") = some true) (hm : PySem.W.mroIn K D (.type "object") = some true) : ExC K D := ⟨cl, hg, hk, hs, hd, ha, hn, ht, hm⟩
theorem kit_self {K : PySem.W.Frag} {C : Addr} : PySem.W.kitOne K (.ref C) (.ref C) = some true := by
  unfold PySem.W.kitOne
  rw [if_pos (beq_self_eq_true _)]
theorem kit_other {K : PySem.W.Frag} {C D : Addr} (iD : PySem.W.isClsIn K D = true) (tD : PySem.W.typeIn K (.ref D) = some (.type "type")) (sC : PySem.W.subIn K (.ref C) (.ref C) = some true) (s : PySem.W.subIn K (.ref C) (.ref D) = some false) : PySem.W.kitOne K (.ref C) (.ref D) = some false := by
  unfold PySem.W.kitOne
  have ne : ¬ (Value.ref C == Value.ref D) = true := fun z => by
    have e := eq_of_beq z
    rw [← e, sC] at s
    cases s
  rw [if_neg ne]
  unfold PySem.W.kitCls
  have iD' : (PySem.W.clsIn K D).isSome = true := iD
  show (if ((PySem.W.clsIn K D).isSome && PySem.W.typeIn K (.ref D) == some (.type "type")) = true then PySem.W.subIn K (.ref C) (.ref D) else none) = _
  rw [iD', tD, if_pos (by rfl)]
  exact s
theorem kit_typ {K : PySem.W.Frag} {C : Addr} {T : String} {b : Bool} (hT : PySem.W.kitMeta T = true) (s : PySem.W.subIn K (.ref C) (.type T) = some b) : PySem.W.kitOne K (.ref C) (.type T) = some b := by
  unfold PySem.W.kitOne
  have ne : ¬ (Value.ref C == Value.type T) = true := fun z => by
    have e := eq_of_beq z
    cases e
  rw [if_neg ne]
  show (if PySem.W.kitMeta T = true then PySem.W.subIn K (.ref C) (.type T) else none) = _
  rw [if_pos hT]
  exact s
theorem exm_self {K : PySem.W.Frag} {S : Addr} (h1 : PySem.W.subIn K (.ref S) (.type "BaseException") = some true) (h2 : PySem.W.hasDictIn K S = true) (h3 : PySem.W.typeIn K (.ref S) = some (.type "type")) (h4 : PySem.W.subIn K (.ref S) (.ref S) = some true) :
    PySem.W.exmOne K (.ref S) (.ref S) = some true := PySem.W.exm_ref h1 h2 h3 h4
def cqSelf (k : Nat) : Nat → Option Bool := fun n => if n = k then some true else none
theorem cqSelf_ok {K : PySem.W.Frag} {Γ : Gm} {k : Nat} (h : PySem.W.exmOne K (.ref (Γ.c k)) (.ref (Γ.c k)) = some true) : ∀ n b, cqSelf k n = some b → PySem.W.exmOne K (.ref (Γ.c n)) (.ref (Γ.c k)) = some b := fun n b e => by
  unfold cqSelf at e
  split at e
  · rename_i hn
    cases e
    rw [hn]
    exact h
  · cases e
end DM

set_option linter.all false
set_option maxRecDepth 100000
set_option maxHeartbeats 4000000
/-! DM7: own classes: fields, instances that are made, methods. -/
namespace DM
open PySem PySem.Spec PyProof.Rows L2
open Classical
/-! ### fields -/
def putD (f : Str) (d : Dt) : List (Str × Dt) → List (Str × Dt)
  | [] => [(f, d)]
  | (g, x) :: r => if g = f then (g, d) :: r else (g, x) :: putD f d r
theorem RpK.put {ω : Wd} {f : Str} {v : V} {d : Dt} (hv : Rp ω v d) {vs : List (Str × V)} {ds : List (Str × Dt)} (r : RpK ω vs ds) : RpK ω (putF f v vs) (putD f d ds) := by
  induction r with
  | nil => exact .cons hv .nil
  | @cons k u e vs ds a r ih =>
    unfold putF putD
    by_cases h : k = f
    · rw [if_pos h, if_pos h]
      exact .cons hv r
    · rw [if_neg h, if_neg h]
      exact .cons a ih
theorem RpK.look {ω : Wd} {f : Str} {vs : List (Str × V)} {ds : List (Str × Dt)} (r : RpK ω vs ds) : ∀ {d : Dt}, ds.lookup f = some d → ∃ v, vs.lookup f = some v ∧ Rp ω v d := by
  induction r with
  | nil => intro d h; cases h
  | @cons k u e vs ds a r ih =>
    intro d h
    rw [List.lookup_cons] at h ⊢
    cases q : (f == k) with
    | true =>
      rw [q] at h
      cases h
      exact ⟨u, rfl, a⟩
    | false =>
      rw [q] at h
      exact ih h
theorem RpK.look0 {ω : Wd} {f : Str} {vs : List (Str × V)} {ds : List (Str × Dt)} (r : RpK ω vs ds) : ds.lookup f = none → vs.lookup f = none := by
  induction r with
  | nil => intro _; rfl
  | @cons k u e vs ds a r ih =>
    intro h
    rw [List.lookup_cons] at h ⊢
    cases q : (f == k) with
    | true =>
      rw [q] at h
      cases h
    | false =>
      rw [q] at h
      exact ih h
theorem RpK.len {κ : Type} {ω : Wd} {vs : List (κ × V)} {ds : List (κ × Dt)} (r : RpK ω vs ds) : vs.length = ds.length := by
  induction r with
  | nil => rfl
  | cons _ _ ih => exact congrArg Nat.succ ih
/-- the classes whose instances have the field f by themselves -/
def InsOk (K : PySem.W.Frag) (Γ : Gm) (no : Nat → Str → Bool) : Prop := ∀ n f, no n f = true → Cls K (Γ.c n) ∧ NoAttr K (Γ.c n) f
/-- e.f, of an instance or a kept error -/
def tFldU (K : PySem.W.Frag) (f : Str) (te : TE) : TE := fun σ H Q => te σ H fun x H1 =>
  (∃ a C dx fs v, x = .ref a ∧ H1 a = some (.ins C dx fs) ∧ Cls K C ∧ NoAttr K C f ∧ fs.lookup f = some v ∧ Q v H1) ∨
  ∃ (a C dd : Addr) (fs : List (Str × V)) (v : V), x = .ref a ∧ ExC K C ∧ PySem.W.findIn K (.ref C) f = some none ∧ H1 a = some (exK (.ref C) (some dd) a) ∧ H1 dd = some (.xd fs) ∧ fs.lookup f = some v ∧ Q v H1
theorem k_fldU {X : Cx} {K : PySem.W.Frag} (hK : X.K = K) {e : Expr} {te : TE} {pos : Pos} {n : Str} (he : PE X e te) (hb : attributeBase e n X.env (eval e X.env) = eval e X.env := by rfl) : PE X (.Attribute e n pos) (tFldU K n te) := by
  subst hK
  refine ⟨fun pins s σ H Q I h => ?_⟩
  refine attr_of hb (thn (he.run pins s σ H _ I h) fun u s1 hh => ?_)
  obtain ⟨x, H1, I1, rx, hh⟩ := hh
  rcases hh with ⟨a, C, dx, fs, v, ex, ea, c, no, l, q⟩ | ⟨a, C, dd, fs, v, ex, T, hno, ha, ea, l, q⟩
  · subst ex
    obtain rfl : u = Value.ref a := rx
    exact getattr_ok I1 ea c no l fun w s2 I2 rw' => ⟨v, H1, I2, rw', q⟩
  · subst ex
    obtain rfl : u = Value.ref a := rx
    obtain ⟨oe, vs, hget, hz, hd⟩ := exK_at I1.hok ha
    have hx : ObjOk X.prog X.w H1 s1.heap dd (.xd fs) := I1.hok dd _ ea
    obtain ⟨mA, hns, hr⟩ := hx
    obtain ⟨od, ho, hl⟩ := lookIn_ns hns
    obtain ⟨u, hu, ru⟩ := RelO.some_of (v := v) (o := mA n) (by rw [← l]; exact hr n)
    have J : PySem.W.InstAt s1.heap a oe C (some od) := ⟨hget, hz.1, by unfold PySem.W.notCls; rw [hd] <;> rfl, by rw [hz.2]; exact ho⟩
    exact HandSPX.exc_get I1.kIn J T.hg T.hk T.hs (PySem.W.findObj_own T.hd hno rfl (by rw [hl, hu])) (handed_of ru) ⟨v, H1, I1.tok _, ru, q⟩
def oFld (nx ni : Nat → Str → Bool) (f : Str) (d : Dt) (μ : Mem) : R Dt := match d with
  | .exc n ns es => if nx n f = true then (match (ns.zip es).lookup f with
    | some d => .ok d μ
    | none => .no) else .no
  | .ptr i => match μ[i]? with
    | some (.ins n fs) => if ni n f = true then (match fs.lookup f with
      | some d => .ok d μ
      | none => .no) else .no
    | _ => .no
  | _ => .no
section
variable {Γ : Gm} {W : WX} {K : PySem.W.Frag} {ta tv : TE} {ma mv : MX} {ts tk : TA} {ms mk : MA}
theorem ev_fldU {nx ni : Nat → Str → Bool} {f : Str} (hnx : NoOk K Γ nx) (hni : InsOk K Γ ni) (ha : EV Γ W ta ma) : EV Γ W (tFldU K f ta) (mUn (oFld nx ni f) ma) := fun σ H Q ⟨ω, δ, μ, hg, he, hw, h⟩ =>
  ha σ H _ ⟨ω, δ, μ, hg, he, hw, GoE.split (f := oFld nx ni f) h fun a μ1 x ω1 H1 l1 w1 r1 h1 => by
    have hg1 := l1.g.trans hg
    cases a with
    | exc n ns es =>
      unfold oFld at h1
      dsimp only at h1
      split at h1
      · rename_i hn
        split at h1
        · rename_i d e
          obtain ⟨X, hf⟩ := hnx n f hn
          cases r1 with
          | exn _ => simp at e
          | exd k1 k2 r =>
            rw [hg1] at k1
            obtain ⟨v, hv, rv⟩ := zip_look r e
            exact .inr ⟨_, _, _, _, v, rfl, X, hf, w1.x _ _ k1, w1.x _ _ k2, hv, h1.ok w1 rv⟩
        · exact h1.elim
      · exact h1.elim
    | ptr i =>
      unfold oFld at h1
      dsimp only at h1
      split at h1
      · rename_i n fs e
        split at h1
        · rename_i hn
          split at h1
          · rename_i d el
            obtain ⟨c, no⟩ := hni n f hn
            cases r1 with
            | ptr hb =>
              obtain ⟨_, dx, vs, hx, rk⟩ := w1.at_ _ _ _ hb e
              rw [hg1] at hx
              obtain ⟨v, hv, rv⟩ := rk.look el
              exact .inl ⟨_, _, _, _, v, rfl, hx, c, no, hv, h1.ok w1 rv⟩
          · exact h1.elim
        · exact h1.elim
      · exact h1.elim
    | _ => exact h1.elim⟩
/-- e.f = value -/
def sFldM (ni : Nat → Str → Bool) (f : Str) (a o : MX) : MS := fun δ μ => (a δ μ).thn δ fun y μ1 => (o δ μ1).thn δ fun x μ2 => match x with
  | .ptr i => match μ2[i]? with
    | some (.ins n fs) => if ni n f = true ∧ fs.length < 1000 then .nx δ (μ2.set i (.ins n (putD f y fs))) else .no
    | _ => .no
  | _ => .no
theorem k_fldS {X : Cx} (hK : X.K = K) {o value : Expr} {f : Str} {pos pos' : Pos} (ha : PE X o ta) (hv : PE X value tv) (hs : swapsWith value (some (.Attribute o f pos')) pos.line X.env = pure false := by rfl) : PS X (.Assign [.Attribute o f pos'] value pos) (sFld K ta tv f) := hK ▸ ps_fld ha hv hs
theorem sv_fld {ni : Nat → Str → Bool} {f : Str} (hni : InsOk K Γ ni) (hv : EV Γ W tv mv) (ha : EV Γ W ta ma) : SV Γ W (sFld K ta tv f) (sFldM ni f mv ma) := fun D σ H ⟨ω, δ, μ, hg, he, hw, h⟩ =>
  hv σ H _ ⟨ω, δ, μ, hg, he, hw, GoE.splitS (f := fun y μ1 => (ma δ μ1).thn δ fun x μ2 => match x with
    | .ptr i => match μ2[i]? with
      | some (.ins n fs) => if ni n f = true ∧ fs.length < 1000 then .nx δ (μ2.set i (.ins n (putD f y fs))) else .no
      | _ => .no
    | _ => .no) he h fun y μ1 v ω1 H1 l1 w1 r1 h1 => ha σ H1 _ ⟨ω1, δ, μ1, l1.g.trans hg, he.mono l1, w1, GoE.splitS (f := fun x μ2 => match x with
    | .ptr i => match μ2[i]? with
      | some (.ins n fs) => if ni n f = true ∧ fs.length < 1000 then .nx δ (μ2.set i (.ins n (putD f y fs))) else .no
      | _ => .no
    | _ => .no) (he.mono l1) h1 fun x μ2 u ω2 H2 l2 w2 r2 h2 => by
    cases r2 with
    | ptr hb =>
      dsimp only at h2
      split at h2
      · rename_i n fs e
        split at h2
        · rename_i hc
          obtain ⟨hB, dx, vs, hx, rk⟩ := w2.at_ _ _ _ hb e
          obtain ⟨c, no⟩ := hni n f hc.1
          have hg2 := l2.g.trans (l1.g.trans hg)
          refine ⟨_, _, dx, vs, rfl, hx, by rw [hg2]; exact c, by rw [hg2]; exact no, by rw [rk.len]; exact hc.2, ?_⟩
          exact h2 σ ω2 _ (Le.refl _) (w2.put hb hB ⟨hB, dx, _, upd_same, rk.put (r1.mono l2)⟩) ((he.mono l1).mono l2)
        · exact h2.elim
      · exact h2.elim
    | _ => exact h2.elim⟩⟩
/-! ### a new instance -/
def tMakeNS (C : Addr) (n m : Nat) (sp : Sp) (gV : List V → List V → List V) (E : L2.St → XK) (t tk : TA) : TE := fun σ H Q => t σ H fun vs H1 => tk σ H1 fun zs H2 => vs.length = n ∧ zs.length = m ∧
  ∀ x dx, H2 x = none → H2 dx = none → dx ≠ x → sp (gV (.ref x :: vs) zs) (upd (upd H2 dx (.own x)) x (.ins C dx [])) (fun v H3 => v = .non ∧ Q (.ref x) H3) (E σ)
def mMake (cn n m : Nat) (f : List Dt → Mem → R Dt) (idx : List Nat) (md : List Dt) (a k : MA) : MX := fun δ μ => (a δ μ).bind fun ds μ1 => (k δ μ1).bind fun es μ2 => if ds.length = n ∧ es.length = m then
  (f (pm idx ((.ptr μ2.length :: ds) ++ md ++ es)) (μ2 ++ [.ins cn []])).bind fun d μ3 => (match d with
    | .non => .ok (.ptr μ2.length) μ3
    | _ => .no) else .no
theorem ev_make {cn n m : Nat} {f : List Dt → Mem → R Dt} {idx : List Nat} {vd : List V} {md : List Dt} (hd : ∀ ω : Wd, ω.Γ = Γ → RpL ω vd md) (ha : AV Γ W ts ms) (hk : AV Γ W tk mk) :
    EV Γ W (tMakeNS (Γ.c cn) n m (FM Γ f) (fun vs zs => pm idx (vs ++ vd ++ zs)) (WE W) ts tk) (mMake cn n m f idx md ms mk) := fun σ H Q ⟨ω, δ, μ, hg, he, hw, h⟩ =>
  ha σ H _ ⟨ω, δ, μ, hg, he, hw, h.split fun ds μ1 vs ω1 H1 l1 w1 r1 h1 => hk σ H1 _ ⟨ω1, δ, μ1, l1.g.trans hg, he.mono l1, w1, h1.split fun es μ2 zs ω2 H2 l2 w2 r2 h2 => by
    split at h2
    · rename_i hl
      have hg2 := l2.g.trans (l1.g.trans hg)
      refine ⟨by rw [r1.len]; exact hl.1, by rw [r2.len]; exact hl.2, fun x dx nx nd ne => ?_⟩
      have wd := w2.newH (u := .own x) nd
      have nx' : upd H2 dx (.own x) x = none := by rw [upd_ne ne.symm]; exact nx
      obtain ⟨l3, w3, e3⟩ := wd.newM (u := .ins (Γ.c cn) dx []) (o := .ins cn []) nx' ⟨w2.x.free nx, dx, [], by rw [upd_same, ← hg2], .nil⟩
      have hg3 := l3.g.trans hg2
      refine ⟨_, _, _, hg3, pm_rp (((RpL.cons (.ptr e3) (((r1.mono l2).mono l3))).app (hd _ hg3)).app (r2.mono l3)) idx, w3, ?_⟩
      have h2 := GoE.mono h2 l3
      revert h2
      cases f (pm idx ((.ptr μ2.length :: ds) ++ md ++ es)) (μ2 ++ [.ins cn []]) with
      | ok d μ =>
        intro h2 v ω' H' l' w' r'
        cases r' with
        | non => exact ⟨rfl, h2 (.ref x) ω' H' l' w' (.ptr (l'.a _ _ e3))⟩
        | _ => exact h2.elim
      | ex n ns es μ => exact fun h2 => h2
      | no => exact fun h2 => h2
    · exact h2.elim⟩⟩
end
section
variable {X : Cx} {k n : Nat} {ps ks : List Str} {sp : Sp} {x : Str} {p pos : Pos} {e : Expr} {es : List Expr} {kws : List Keyword} {t tk : TA} {st : Stmt} {kd : List (Str × V)} {W : WX} {C f : Addr} {fd : FuncData}
  {g : List Value → List Value → List Value} {gV : List V → List V → List V} {CX : CXT} {E : L2.St → XK}
theorem run_makeNS {pins : List (Addr × Obj)} {σ : L2.St} {H : Hp} {s : Shared} {Q : VK} {us ws : List Value} {vs zs : List V} (M : Mk X.K C f) (F : FnOk X.prog X.w X.K X.mg X.base CX k f fd ps sp) (hr : Room (k + 1) X.A) (hb : KBn X.K fd ps (n + 1) ks g gV) (hx : PassesAt CX X σ (E σ))
    (I : Inv X pins σ H s) (ra : Vals vs us) (rk : Vals zs ws) (l1 : vs.length = n) (l2 : zs.length = ks.length)
    (h : ∀ x dx, H x = none → H dx = none → dx ≠ x → sp (gV (.ref x :: vs) zs) (upd (upd H dx (.own x)) x (.ins C dx [])) (fun v H2 => v = .non ∧ Q (.ref x) H2) (E σ)) :
    wpAny (model X.prog X.w) X.A (call (.ref C) us (ks.zip ws)) (L2.EP X pins σ Q) X.xe s := by
  have hn := h (s.heap.objs.size + 1) s.heap.objs.size (I.hok.fresh (Nat.le_succ _)) (I.hok.fresh (Nat.le_refl _)) (Nat.ne_of_lt (Nat.lt_succ_self _))
  have J := Inv.made (C := C) I
  have rel := hb.rel (show Vals (V.ref (s.heap.objs.size + 1) :: vs) (Value.ref (s.heap.objs.size + 1) :: us) from .cons rfl ra) rk
  have many : (Value.ref (s.heap.objs.size + 1) :: us).length = n + 1 := by rw [List.length_cons, ← ra.length, l1]
  have run := F.run (X.A.under (.builtin "type.__call__" ⟨.ref C :: us, ks.zip ws⟩)) X.stack _ _ ⟨Value.ref (s.heap.objs.size + 1) :: us, ks.zip ws⟩ (g (Value.ref (s.heap.objs.size + 1) :: us) ws) _ _ (E σ) (hr.make C us (ks.zip ws))
    (J.env0.make C us (ks.zip ws)) (hb.to _ (Value.ref (s.heap.objs.size + 1) :: us) ws J.kIn many (rk.length.symm.trans l2)) rel hn
  refine wpAny_call (make_map (f := f) I.kIn M.makes M.init (beq_iff_eq.mp M.fn) (codeAny_mono run fun r s' z => ?_))
  cases r with
  | error e => exact hx pins _ _ e s' J z
  | ok fl => cases fl with
    | ret u =>
      obtain ⟨v, H', J3, rv, ev, q3⟩ := J.after z
      subst ev
      exact ⟨rv, ⟨V.ref (s.heap.objs.size + 1), H', J3, rfl, q3⟩⟩
    | _ => exact False.elim z
theorem pe_mkNS (M : Mk X.K C f) (F : FnOk X.prog X.w X.K X.mg X.base CX k f fd ps sp) (hr : Room (k + 1) X.A) (hg : Gl X x) (hm : X.mg x = some (.ref C)) (hb : KBn X.K fd ps (n + 1) ks g gV) (hx : ∀ σ, PassesAt CX X σ (E σ)) (ha : PA X (e :: es) t) (hkw : PK X kws tk)
    (hall : (backToKw pos (keywordEach kws X.env)).all (·.1.isSome) = true := by rfl) (hks : (backToKw pos (keywordEach kws X.env)).filterMap (·.1) = ks := by rfl) (hdb : (x == ("__debug__" : Str)) = false := by decide)
    (he : starEach (e :: es) X.env = (false, eval e X.env) :: starEach es X.env := by rfl) (hpl : ((backTo pos (starEach (e :: es) X.env)).any (·.1) || (backToKw pos (keywordEach kws X.env)).any (·.1.isNone)) = false := by rfl) :
    PE X (.Call (.Name x p) (e :: es) kws pos) (tMakeNS C n ks.length sp gV E t tk) := by
  refine ⟨fun pins s σ H Q I h => wpAny_Call_Name_kw (ld_glob I hg hm ?_ hdb)⟩
  refine PySem.W.callWith_KW (h₀ := X.base) I.ok.mod.kin M.kp hall (thn (ha.run pos pins s σ H _ I h) fun us s1 z => ?_) hpl he
  obtain ⟨vs, H1, I1, r, q⟩ := z
  refine thn (hkw.run pos pins s1 σ H1 _ I1 q) fun ws s2 z => ?_
  obtain ⟨zs, H2, I2, rz, l1, l2, q2⟩ := z
  refine ⟨I2.kIn, ?_⟩
  rw [hks]
  exact run_makeNS M F hr hb (hx σ) I2 r rz l1 l2 q2
theorem pe_mkNS0 (M : Mk X.K C f) (F : FnOk X.prog X.w X.K X.mg X.base CX k f fd ps sp) (hr : Room (k + 1) X.A) (hg : Gl X x) (hm : X.mg x = some (.ref C)) (hb : KBn X.K fd ps 1 ks g gV) (hx : ∀ σ, PassesAt CX X σ (E σ)) (hkw : PK X kws tk)
    (hall : (backToKw pos (keywordEach kws X.env)).all (·.1.isSome) = true := by rfl) (hks : (backToKw pos (keywordEach kws X.env)).filterMap (·.1) = ks := by rfl) (hdb : (x == ("__debug__" : Str)) = false := by decide)
    (hpl : ((backTo pos (starEach [] X.env)).any (·.1) || (backToKw pos (keywordEach kws X.env)).any (·.1.isNone)) = false := by rfl) :
    PE X (.Call (.Name x p) [] kws pos) (tMakeNS C 0 ks.length sp gV E tNil tk) := by
  refine ⟨fun pins s σ H Q I h => wpAny_Call_Name_kw (ld_glob I hg hm ?_ hdb)⟩
  refine PySem.W.callWith_KW0 (h₀ := X.base) I.ok.mod.kin M.kp hall (thn (hkw.run pos pins s σ H _ I h) fun ws s2 z => ?_) hpl
  obtain ⟨zs, H2, I2, rz, l1, l2, q2⟩ := z
  refine ⟨I2.kIn, ?_⟩
  rw [hks]
  exact run_makeNS (us := []) (vs := []) M F hr hb (hx σ) I2 .nil rz rfl l2 q2
theorem pe_mkNP (M : Mk X.K C f) (F : FnOk X.prog X.w X.K X.mg X.base CX k f fd ps sp) (hr : Room (k + 1) X.A) (hg : Gl X x) (hm : X.mg x = some (.ref C)) (hb : KBn X.K fd ps (n + 1) [] g gV) (hx : ∀ σ, PassesAt CX X σ (E σ)) (ha : PA X (e :: es) t)
    (hdb : (x == ("__debug__" : Str)) = false := by decide) (he : starEach (e :: es) X.env = (false, eval e X.env) :: starEach es X.env := by rfl) (hpl : (backTo pos (starEach es X.env)).any (·.1) = false := by rfl) :
    PE X (.Call (.Name x p) (e :: es) [] pos) (tMakeNS C n 0 sp gV E t tNil) := by
  refine ⟨fun pins s σ H Q I h => wpAny_Call_Name_kw (ld_glob I hg hm ?_ hdb)⟩
  refine PySem.W.callWith_K (h₀ := X.base) I.ok.mod.kin M.kp (thn (ha.run pos pins s σ H _ I h) fun us s1 z => ?_) he hpl
  obtain ⟨vs, H1, I1, r, q⟩ := z
  obtain ⟨l1, l2, q2⟩ := (show vs.length = n ∧ ([] : List V).length = 0 ∧ _ from q)
  exact ⟨I1.kIn, run_makeNS (ks := []) (ws := []) (zs := []) M F hr hb (hx σ) I1 r .nil l1 l2 q2⟩
theorem pe_mkNP0 (M : Mk X.K C f) (F : FnOk X.prog X.w X.K X.mg X.base CX k f fd ps sp) (hr : Room (k + 1) X.A) (hg : Gl X x) (hm : X.mg x = some (.ref C)) (hb : KBn X.K fd ps 1 [] g gV) (hx : ∀ σ, PassesAt CX X σ (E σ))
    (hdb : (x == ("__debug__" : Str)) = false := by decide) :
    PE X (.Call (.Name x p) [] [] pos) (tMakeNS C 0 0 sp gV E tNil tNil) := by
  refine ⟨fun pins s σ H Q I h => wpAny_Call_Name_kw (ld_glob I hg hm ?_ hdb)⟩
  obtain ⟨l1, l2, q2⟩ := (show ([] : List V).length = 0 ∧ ([] : List V).length = 0 ∧ _ from h)
  exact PySem.W.callWith_K0 I.kIn M.kp (run_makeNS (n := 0) (ks := []) (ws := []) (zs := []) (us := []) (vs := []) M F hr hb (hx σ) I .nil .nil rfl rfl q2)
end
end DM

set_option linter.all false
set_option maxRecDepth 100000
set_option maxHeartbeats 4000000
/-! DM8: methods of own classes; dicts. -/
namespace DM
open PySem PySem.Spec PyProof.Rows L2
open Classical
/-! ### methods -/
/-- for each class number the method's function and where it stands -/
structure MethB (P : Program) (w : World) (K : PySem.W.Frag) (mg : Str → Option Value) (base : Heap) (Γ : Gm) (m : Str) (cn k n : Nat) (ks : List Str) (gV : List V → List V → List V) (f : List Dt → Mem → R Dt) : Prop where
  ex : ∃ (g : Addr) (fd : FuncData) (ps : List Str) (gg : List Value → List Value → List Value), Cls K (Γ.c cn) ∧ Meth K (Γ.c cn) m g ∧ FnOk P w K mg base (L2.CX P w) k g fd ps (FM Γ f) ∧ KBn K fd ps (n + 1) ks gg gV
/-- o.m(..), o an instance of one of the classes that tb knows -/
def tMethM (K : PySem.W.Frag) (Γ : Gm) (tb : Nat → Option (List Dt → Mem → R Dt)) (m : Str) (n l : Nat) (gV : List V → List V → List V) (E : L2.St → XK) (ta : TE) (t tk : TA) : TE := fun σ H Q => ta σ H fun x H1 => ∃ a cn f dx fs, x = .ref a ∧ H1 a = some (.ins (Γ.c cn) dx fs) ∧ tb cn = some f ∧ fs.lookup m = none ∧
  t σ H1 fun vs H2 => tk σ H2 fun zs H3 => vs.length = n ∧ zs.length = l ∧ FM Γ f (gV (x :: vs) zs) H3 Q (E σ)
section
variable {X : Cx} {k n : Nat} {ps ks : List Str} {p pos apos : Pos} {e o : Expr} {es : List Expr} {kws : List Keyword} {ta : TE} {t tk : TA} {W : WX} {m : Str} {gV : List V → List V → List V} {Γ : Gm} {tb : Nat → Option (List Dt → Mem → R Dt)} {E : L2.St → XK} {K : PySem.W.Frag}
theorem run_methM {pins : List (Addr × Obj)} {σ : L2.St} {H : Hp} {s : Shared} {Q : VK} {us ws : List Value} {vs zs : List V} {a g : Addr} {fd : FuncData} {gg : List Value → List Value → List Value} {f : List Dt → Mem → R Dt}
    (F : FnOk X.prog X.w X.K X.mg X.base (L2.CX X.prog X.w) k g fd ps (FM Γ f)) (hr : Room k X.A) (hb : KBn X.K fd ps (n + 1) ks gg gV) (hx : PassesAt (L2.CX X.prog X.w) X σ (E σ)) (I : Inv X pins σ H s) (r : Vals vs us) (rz : Vals zs ws) (l1 : vs.length = n) (l2 : zs.length = ks.length)
    (h : FM Γ f (gV (.ref a :: vs) zs) H Q (E σ)) : wpAny (model X.prog X.w) X.A (call (.ref g) (.ref a :: us) (ks.zip ws)) (L2.EP X pins σ Q) X.xe s := by
  have rr : Vals (V.ref a :: vs) (Value.ref a :: us) := .cons rfl r
  have hl : (Value.ref a :: us).length = n + 1 := by rw [List.length_cons, ← r.length, l1]
  refine wpAny_call (codeAny_mono (F.run X.A X.stack s H ⟨Value.ref a :: us, ks.zip ws⟩ (gg (Value.ref a :: us) ws) (gV (.ref a :: vs) zs) Q (E σ) hr I.env0 (hb.to s _ ws I.kIn hl (rz.length.symm.trans l2)) (hb.rel rr rz) h) fun res s' z => ?_)
  cases res with
  | error e => exact hx pins H s e s' I z
  | ok fl => cases fl with
    | ret u => exact I.after z
    | _ => exact False.elim z
/-- o.m(e, .., k = v, ..) -/
theorem pe_mtM {pl : Sem Bool} (hK : X.K = K) (he : PE X o ta) (hT : ∀ cn f, tb cn = some f → MethB X.prog X.w X.K X.mg X.base Γ m cn k n ks gV f) (hr : Room k X.A) (hx : ∀ σ, PassesAt (L2.CX X.prog X.w) X σ (E σ)) (ha : PA X (e :: es) t) (hkw : PK X kws tk)
    (hall : (backToKw pos (keywordEach kws X.env)).all (·.1.isSome) = true := by rfl) (hks : (backToKw pos (keywordEach kws X.env)).filterMap (·.1) = ks := by rfl)
    (hst : starEach (e :: es) X.env = (false, eval e X.env) :: starEach es X.env := by rfl) (hpl : ((backTo pos (starEach (e :: es) X.env)).any (·.1) || (backToKw pos (keywordEach kws X.env)).any (·.1.isNone)) = false := by rfl)
    (ht : eval (.Call (.Attribute o m apos) (e :: es) kws pos) X.env = (do
      let ov ← eval o X.env
      standAt apos.atName
      let (f, first) ← holding [ov] (getMethod ov m pl)
      callWith pos f first (backTo pos (starEach (e :: es) X.env)) (backToKw pos (keywordEach kws X.env))) := by rfl) :
    PE X (.Call (.Attribute o m apos) (e :: es) kws pos) (tMethM K Γ tb m n ks.length gV E ta t tk) := by
  subst hK
  refine ⟨fun pins s σ H Q I h => PySem.W.methodCall_KW (pl := pl) (thn (he.run pins s σ H _ I h) fun u s1 z => ?_) ht⟩
  obtain ⟨x, H1, I1, rx, a, cn, f, dx, fs, ex, ea, et, l, q⟩ := z
  subst ex
  obtain rfl : u = Value.ref a := rx
  obtain ⟨g, fd, ps, gg, c, hm, F, hb⟩ := (hT cn f et).ex
  refine getmeth_ok I1 ea c hm l ?_
  refine PySem.W.callWith_KW (first := [.ref a]) (h₀ := X.base) I.ok.mod.kin hm.kp hall (thn (ha.run pos pins s1 σ H1 _ I1 q) fun us s2 z => ?_) hpl hst
  obtain ⟨vs, H2, I2, r, q2⟩ := z
  refine thn (hkw.run pos pins s2 σ H2 _ I2 q2) fun ws s3 z => ?_
  obtain ⟨zs, H3, I3, rz, l1, l2, q3⟩ := z
  refine ⟨I3.kIn, ?_⟩
  rw [hks]
  exact run_methM F hr hb (hx σ) I3 r rz l1 l2 q3
/-- o.m(k = v, ..) -/
theorem pe_mtM0 {pl : Sem Bool} (hK : X.K = K) (he : PE X o ta) (hT : ∀ cn f, tb cn = some f → MethB X.prog X.w X.K X.mg X.base Γ m cn k 0 ks gV f) (hr : Room k X.A) (hx : ∀ σ, PassesAt (L2.CX X.prog X.w) X σ (E σ)) (hkw : PK X kws tk)
    (hall : (backToKw pos (keywordEach kws X.env)).all (·.1.isSome) = true := by rfl) (hks : (backToKw pos (keywordEach kws X.env)).filterMap (·.1) = ks := by rfl)
    (hpl : ((backTo pos (starEach [] X.env)).any (·.1) || (backToKw pos (keywordEach kws X.env)).any (·.1.isNone)) = false := by rfl)
    (ht : eval (.Call (.Attribute o m apos) [] kws pos) X.env = (do
      let ov ← eval o X.env
      standAt apos.atName
      let (f, first) ← holding [ov] (getMethod ov m pl)
      callWith pos f first (backTo pos (starEach [] X.env)) (backToKw pos (keywordEach kws X.env))) := by rfl) :
    PE X (.Call (.Attribute o m apos) [] kws pos) (tMethM K Γ tb m 0 ks.length gV E ta tNil tk) := by
  subst hK
  refine ⟨fun pins s σ H Q I h => PySem.W.methodCall_KW (pl := pl) (thn (he.run pins s σ H _ I h) fun u s1 z => ?_) ht⟩
  obtain ⟨x, H1, I1, rx, a, cn, f, dx, fs, ex, ea, et, l, q⟩ := z
  subst ex
  obtain rfl : u = Value.ref a := rx
  obtain ⟨g, fd, ps, gg, c, hm, F, hb⟩ := (hT cn f et).ex
  refine getmeth_ok I1 ea c hm l ?_
  refine PySem.W.callWith_KW0 (first := [.ref a]) (h₀ := X.base) I.ok.mod.kin hm.kp hall (thn (hkw.run pos pins s1 σ H1 _ I1 q) fun ws s3 z => ?_) hpl
  obtain ⟨zs, H3, I3, rz, l1, l2, q3⟩ := z
  refine ⟨I3.kIn, ?_⟩
  rw [hks]
  exact run_methM (us := []) (vs := []) F hr hb (hx σ) I3 .nil rz rfl l2 q3
/-- o.m(e, ..) -/
theorem pe_mtMP {pl : Sem Bool} (hK : X.K = K) (he : PE X o ta) (hT : ∀ cn f, tb cn = some f → MethB X.prog X.w X.K X.mg X.base Γ m cn k n [] gV f) (hr : Room k X.A) (hx : ∀ σ, PassesAt (L2.CX X.prog X.w) X σ (E σ)) (ha : PA X (e :: es) t)
    (hst : starEach (e :: es) X.env = (false, eval e X.env) :: starEach es X.env := by rfl) (hpl : (backTo pos (starEach es X.env)).any (·.1) = false := by rfl)
    (ht : eval (.Call (.Attribute o m apos) (e :: es) [] pos) X.env = (do
      let ov ← eval o X.env
      standAt apos.atName
      let (f, first) ← holding [ov] (getMethod ov m pl)
      callWith pos f first (backTo pos (starEach (e :: es) X.env)) (backToKw pos (keywordEach [] X.env))) := by rfl) :
    PE X (.Call (.Attribute o m apos) (e :: es) [] pos) (tMethM K Γ tb m n 0 gV E ta t tNil) := by
  subst hK
  refine ⟨fun pins s σ H Q I h => PySem.W.methodCall_KW (pl := pl) (thn (he.run pins s σ H _ I h) fun u s1 z => ?_) ht⟩
  obtain ⟨x, H1, I1, rx, a, cn, f, dx, fs, ex, ea, et, l, q⟩ := z
  subst ex
  obtain rfl : u = Value.ref a := rx
  obtain ⟨g, fd, ps, gg, c, hm, F, hb⟩ := (hT cn f et).ex
  refine getmeth_ok I1 ea c hm l ?_
  refine PySem.W.callWith_K (first := [.ref a]) (h₀ := X.base) I.ok.mod.kin hm.kp (thn (ha.run pos pins s1 σ H1 _ I1 q) fun us s2 z => ?_) hst hpl
  obtain ⟨vs, H2, I2, r, q2⟩ := z
  obtain ⟨l1, l2, q3⟩ := (show vs.length = n ∧ ([] : List V).length = 0 ∧ FM Γ f (gV (.ref a :: vs) []) H2 Q (E σ) from q2)
  exact ⟨I2.kIn, run_methM (ks := []) (ws := []) (zs := []) F hr hb (hx σ) I2 r .nil l1 l2 q3⟩
/-- o.m() -/
theorem pe_mtMP0 {pl : Sem Bool} (hK : X.K = K) (he : PE X o ta) (hT : ∀ cn f, tb cn = some f → MethB X.prog X.w X.K X.mg X.base Γ m cn k 0 [] gV f) (hr : Room k X.A) (hx : ∀ σ, PassesAt (L2.CX X.prog X.w) X σ (E σ))
    (ht : eval (.Call (.Attribute o m apos) [] [] pos) X.env = (do
      let ov ← eval o X.env
      standAt apos.atName
      let (f, first) ← holding [ov] (getMethod ov m pl)
      callWith pos f first (backTo pos (starEach [] X.env)) (backToKw pos (keywordEach [] X.env))) := by rfl) :
    PE X (.Call (.Attribute o m apos) [] [] pos) (tMethM K Γ tb m 0 0 gV E ta tNil tNil) := by
  subst hK
  refine ⟨fun pins s σ H Q I h => PySem.W.methodCall_KW (pl := pl) (thn (he.run pins s σ H _ I h) fun u s1 z => ?_) ht⟩
  obtain ⟨x, H1, I1, rx, a, cn, f, dx, fs, ex, ea, et, l, q⟩ := z
  subst ex
  obtain rfl : u = Value.ref a := rx
  obtain ⟨g, fd, ps, gg, c, hm, F, hb⟩ := (hT cn f et).ex
  obtain ⟨l1, l2, q3⟩ := (show ([] : List V).length = 0 ∧ ([] : List V).length = 0 ∧ FM Γ f (gV (.ref a :: []) []) H1 Q (E σ) from q)
  refine getmeth_ok I1 ea c hm l ?_
  exact PySem.W.callWith_K0 (first := [.ref a]) I1.kIn hm.kp (run_methM (n := 0) (ks := []) (ws := []) (zs := []) (us := []) (vs := []) F hr hb (hx σ) I1 .nil .nil rfl rfl q3)
end
def mMeth (tb : Nat → Option (List Dt → Mem → R Dt)) (m : Str) (n l : Nat) (idx : List Nat) (md : List Dt) (o : MX) (a k : MA) : MX := fun δ μ => (o δ μ).bind fun x μ0 => match x with
  | .ptr i => match μ0[i]? with
    | some (.ins cn fs) => match tb cn, fs.lookup m with
      | some f, none => (a δ μ0).bind fun ds μ1 => (k δ μ1).bind fun es μ2 => if ds.length = n ∧ es.length = l then f (pm idx ((.ptr i :: ds) ++ md ++ es)) μ2 else .no
      | _, _ => .no
    | _ => .no
  | _ => .no
section
variable {Γ : Gm} {W : WX} {K : PySem.W.Frag} {ta tb tc : TE} {ma mb mc : MX} {ts tk : TA} {ms mk : MA}
theorem ev_meth {tm : Nat → Option (List Dt → Mem → R Dt)} {m : Str} {n l : Nat} {idx : List Nat} {vd : List V} {md : List Dt} (hd : ∀ ω : Wd, ω.Γ = Γ → RpL ω vd md) (ho : EV Γ W ta ma) (ha : AV Γ W ts ms) (hk : AV Γ W tk mk) :
    EV Γ W (tMethM K Γ tm m n l (fun vs zs => pm idx (vs ++ vd ++ zs)) (WE W) ta ts tk) (mMeth tm m n l idx md ma ms mk) := fun σ H Q ⟨ω, δ, μ, hg, he, hw, h⟩ =>
  ho σ H _ ⟨ω, δ, μ, hg, he, hw, h.split fun x μ0 v ω0 H0 l0 w0 r0 h0 => by
    have hg0 := l0.g.trans hg
    cases r0 with
    | ptr hb =>
      rename_i i a
      dsimp only at h0
      split at h0
      · rename_i cn fs e
        split at h0
        · rename_i f e1 e2
          obtain ⟨_, dx, vs0, hx, rk⟩ := w0.at_ _ _ _ hb e
          rw [hg0] at hx
          refine ⟨_, cn, f, dx, vs0, rfl, hx, e1, rk.look0 e2, ha σ H0 _ ⟨ω0, δ, μ0, hg0, he.mono l0, w0, h0.split fun ds μ1 vs ω1 H1 l1 w1 r1 h1 => hk σ H1 _ ⟨ω1, δ, μ1, l1.g.trans hg0, (he.mono l0).mono l1, w1, h1.split fun es μ2 zs ω2 H2 l2 w2 r2 h2 => ?_⟩⟩⟩
          split at h2
          · rename_i hl
            have hg2 := l2.g.trans (l1.g.trans hg0)
            refine ⟨by rw [r1.len]; exact hl.1, by rw [r2.len]; exact hl.2, ω2, _, μ2, hg2, pm_rp (((RpL.cons (.ptr (l2.a _ _ (l1.a _ _ hb))) (r1.mono l2)).app (hd ω2 hg2)).app r2) idx, w2, ?_⟩
            revert h2
            cases f (pm idx ((.ptr i :: ds) ++ md ++ es)) μ2 with
            | ok d μ => exact fun h2 => h2
            | ex n ns es μ => exact fun h2 => h2
            | no => exact fun h2 => h2
          · exact h2.elim
        · exact h0.elim
      · exact h0.elim
    | _ => exact h0.elim⟩
end
end DM

set_option linter.all false
set_option maxRecDepth 100000
set_option maxHeartbeats 4000000
/-! DM9: dicts by texts and ints; sorted texts. -/
namespace DM
open PySem PySem.Spec PyProof.Rows L2
open Classical
def keyD : Dt → Option Key
  | .str z => some (.inr z)
  | .int i => some (.inl i)
  | _ => none
theorem keyD_ok {ω : Wd} {v : V} {d : Dt} {k : Key} (r : Rp ω v d) (h : keyD d = some k) : v = kV k := by
  cases r <;> first | (cases h; rfl) | cases h
def valD (kvs : List (Key × Dt)) (k : Key) : Option Dt := (kvs.find? fun kv => decide (kv.1 = k)).map (·.2)
def putKD (kvs : List (Key × Dt)) (k : Key) (v : Dt) : List (Key × Dt) :=
  if (kvs.any fun kv => decide (kv.1 = k)) = true then kvs.map (fun kv => if kv.1 = k then (kv.1, v) else kv) else kvs ++ [(k, v)]
def dropKD (kvs : List (Key × Dt)) (k : Key) : List (Key × Dt) := kvs.filter fun kv => decide (kv.1 ≠ k)
section
variable {ω : Wd} {k : Key}
theorem RpK.val {vs : List (Key × V)} {ds : List (Key × Dt)} (r : RpK ω vs ds) : (∀ d, valD ds k = some d → ∃ v, valV vs k = some v ∧ Rp ω v d) ∧ (valD ds k = none → valV vs k = none) := by
  induction r with
  | nil => exact ⟨fun d h => (nomatch h), fun _ => rfl⟩
  | @cons j u e vs ds a r ih =>
    unfold valD valV at ih ⊢
    rw [List.find?_cons, List.find?_cons]
    by_cases h : j = k
    · rw [decide_eq_true h]
      exact ⟨fun d q => (by cases q; exact ⟨u, rfl, a⟩), fun q => (nomatch q)⟩
    · rw [decide_eq_false h]
      exact ih
theorem RpK.any {vs : List (Key × V)} {ds : List (Key × Dt)} (r : RpK ω vs ds) : (vs.any fun kv => decide (kv.1 = k)) = ds.any fun kv => decide (kv.1 = k) := by
  induction r with
  | nil => rfl
  | cons a r ih => rw [List.any_cons, List.any_cons, ih]
theorem RpK.app {vs ws : List (Key × V)} {ds es : List (Key × Dt)} (r : RpK ω vs ds) (q : RpK ω ws es) : RpK ω (vs ++ ws) (ds ++ es) := by
  induction r with
  | nil => exact q
  | cons a r ih => exact .cons a ih
theorem RpK.mapPut {v : V} {d : Dt} (hv : Rp ω v d) {vs : List (Key × V)} {ds : List (Key × Dt)} (r : RpK ω vs ds) : RpK ω (vs.map fun kv => if kv.1 = k then (kv.1, v) else kv) (ds.map fun kv => if kv.1 = k then (kv.1, d) else kv) := by
  induction r with
  | nil => exact .nil
  | @cons j u e vs ds a r ih =>
    rw [List.map_cons, List.map_cons]
    by_cases h : j = k
    · rw [if_pos h, if_pos h]
      exact .cons hv ih
    · rw [if_neg h, if_neg h]
      exact .cons a ih
theorem RpK.putk {v : V} {d : Dt} (hv : Rp ω v d) {vs : List (Key × V)} {ds : List (Key × Dt)} (r : RpK ω vs ds) : RpK ω (putK vs k v) (putKD ds k d) := by
  unfold putK putKD
  rw [r.any]
  split
  · exact r.mapPut hv
  · exact r.app (.cons hv .nil)
theorem RpK.dropk {vs : List (Key × V)} {ds : List (Key × Dt)} (r : RpK ω vs ds) : RpK ω (dropK vs k) (dropKD ds k) := by
  unfold dropK dropKD
  induction r with
  | nil => exact .nil
  | @cons j u e vs ds a r ih =>
    by_cases h : j = k
    · rw [List.filter_cons, List.filter_cons]
      simp only [h, ne_eq, not_true_eq_false, decide_false, Bool.false_eq_true, if_false]
      exact ih
    · rw [List.filter_cons, List.filter_cons]
      simp only [h, ne_eq, not_false_eq_true, decide_true, if_true]
      exact .cons a ih
theorem RpK.keys {vs : List (Key × V)} {ds : List (Key × Dt)} (r : RpK ω vs ds) : vs.map (·.1) = ds.map (·.1) := by
  induction r with
  | nil => rfl
  | cons a r ih => rw [List.map_cons, List.map_cons, ih]
end
/-- the dict that a value tells, in the store -/
def asK (μ : Mem) : Dt → Option (List (Key × Dt))
  | .ptr i => match μ[i]? with
    | some (.dK kvs) => some kvs
    | _ => none
  | _ => none
theorem asK_ok {ω : Wd} {μ : Mem} {H : Hp} {x : V} {d : Dt} {kvs : List (Key × Dt)} (w : WR ω μ H) (r : Rp ω x d) (h : asK μ d = some kvs) : ∃ (i : Nat) (a : Addr) (vs : List (Key × V)), d = .ptr i ∧ x = .ref a ∧ ω.α[i]? = some a ∧ ω.B a = none ∧ H a = some (.dK vs) ∧ RpK ω vs kvs := by
  cases r with
  | ptr h1 =>
    rename_i i a
    unfold asK at h
    dsimp only at h
    split at h
    · rename_i ks e
      cases h
      obtain ⟨hb, vs, hx, rk⟩ := w.at_ i a _ h1 e
      exact ⟨i, a, vs, rfl, rfl, h1, hb, hx, rk⟩
    · cases h
  | _ => cases h
section
variable {Γ : Gm} {W : WX} {K : PySem.W.Frag} {ta tb tc : TE} {ma mb mc : MX}
/-- {} -/
def mDNew : MX := fun _ μ => .ok (.ptr μ.length) (μ ++ [.dK []])
theorem ev_dnew : EV Γ W tDNewK mDNew := fun σ H Q ⟨ω, δ, μ, hg, he, hw, h⟩ p hp => by
  obtain ⟨l2, w2, e2⟩ := hw.newM (u := .dK []) (o := .dK []) hp ⟨hw.x.free hp, [], upd_same, .nil⟩
  exact h _ _ _ l2 w2 (.ptr e2)
/-- d[k] -/
def oDGet (a b : Dt) (μ : Mem) : R Dt := match asK μ a, keyD b with
  | some kvs, some k => (match valD kvs k with
    | some d => .ok d μ
    | none => .no)
  | _, _ => .no
theorem ev_dget (ha : EV Γ W ta ma) (hb : EV Γ W tb mb) : EV Γ W (tDGet ta tb) (mOp oDGet ma mb) := fun σ H Q ⟨ω, δ, μ, hg, he, hw, h⟩ =>
  ha σ H _ ⟨ω, δ, μ, hg, he, hw, h.split fun a μ1 x ω1 H1 l1 w1 r1 h1 => hb σ H1 _ ⟨ω1, δ, μ1, l1.g.trans hg, he.mono l1, w1, GoE.split (f := fun y μ2 => oDGet a y μ2) h1 fun b μ2 y ω2 H2 l2 w2 r2 h2 => by
    unfold oDGet at h2
    split at h2
    · rename_i kvs k e1 e2
      split at h2
      · rename_i d e3
        obtain ⟨i, p, vs, rfl, rfl, hα, hB, hx, rk⟩ := asK_ok w2 (r1.mono l2) e1
        obtain ⟨v, hv, rv⟩ := (rk.val (k := k)).1 d e3
        exact ⟨p, v, rfl, .inl ⟨vs, k, .inl hx, keyD_ok r2 e2, hv.symm⟩, h2.ok w2 rv⟩
      · exact h2.elim
    · exact h2.elim⟩⟩
/-- k in d -/
def oDIn (neg : Bool) (a b : Dt) (μ : Mem) : R Dt := match keyD a, asK μ b with
  | some k, some kvs => .ok (.bl (neg ^^ (valD kvs k).isSome)) μ
  | _, _ => .no
theorem dIn_ok {ω : Wd} {μ : Mem} {H : Hp} {x y : V} {a b : Dt} {k : Key} {kvs : List (Key × Dt)} (w : WR ω μ H) (r1 : Rp ω x a) (r2 : Rp ω y b) (e1 : keyD a = some k) (e2 : asK μ b = some kvs) : ∃ p o, y = .ref p ∧ DGet H p x o ∧ o.isSome = (valD kvs k).isSome := by
  obtain ⟨i, p, vs, rfl, rfl, hα, hB, hx, rk⟩ := asK_ok w r2 e2
  refine ⟨p, valV vs k, rfl, .inl ⟨vs, k, .inl hx, keyD_ok r1 e1, rfl⟩, ?_⟩
  cases e : valD kvs k with
  | none =>
    rw [(rk.val (k := k)).2 e]
    rfl
  | some d =>
    obtain ⟨v, hv, _⟩ := (rk.val (k := k)).1 d e
    rw [hv]
    rfl
theorem ev_din (ha : EV Γ W ta ma) (hb : EV Γ W tb mb) : EV Γ W (tDIn ta tb) (mOp (oDIn false) ma mb) := fun σ H Q ⟨ω, δ, μ, hg, he, hw, h⟩ =>
  ha σ H _ ⟨ω, δ, μ, hg, he, hw, h.split fun a μ1 x ω1 H1 l1 w1 r1 h1 => hb σ H1 _ ⟨ω1, δ, μ1, l1.g.trans hg, he.mono l1, w1, GoE.split (f := fun y μ2 => oDIn false a y μ2) h1 fun b μ2 y ω2 H2 l2 w2 r2 h2 => by
    unfold oDIn at h2
    split at h2
    · rename_i k kvs e1 e2
      obtain ⟨p, o, ey, g, q⟩ := dIn_ok w2 (r1.mono l2) r2 e1 e2
      exact ⟨p, o, ey, g, by rw [q]; exact h2.ok w2 (by rw [Bool.false_xor]; exact .bl _)⟩
    · exact h2.elim⟩⟩
theorem ev_dnin (ha : EV Γ W ta ma) (hb : EV Γ W tb mb) : EV Γ W (tDNotIn ta tb) (mOp (oDIn true) ma mb) := fun σ H Q ⟨ω, δ, μ, hg, he, hw, h⟩ =>
  ha σ H _ ⟨ω, δ, μ, hg, he, hw, h.split fun a μ1 x ω1 H1 l1 w1 r1 h1 => hb σ H1 _ ⟨ω1, δ, μ1, l1.g.trans hg, he.mono l1, w1, GoE.split (f := fun y μ2 => oDIn true a y μ2) h1 fun b μ2 y ω2 H2 l2 w2 r2 h2 => by
    unfold oDIn at h2
    split at h2
    · rename_i k kvs e1 e2
      obtain ⟨p, o, ey, g, q⟩ := dIn_ok w2 (r1.mono l2) r2 e1 e2
      exact ⟨p, o, ey, g, by rw [q]; exact h2.ok w2 (by rw [Bool.true_xor]; exact .bl _)⟩
    · exact h2.elim⟩⟩
/-- d.get(k, e) -/
def mDGet2 (a b c : MX) : MX := fun δ μ => (a δ μ).bind fun x μ1 => if (asK μ1 x).isSome = true then (b δ μ1).bind fun y μ2 => (c δ μ2).bind fun z μ3 => (match asK μ3 x, keyD y with
  | some kvs, some k => .ok ((valD kvs k).getD z) μ3
  | _, _ => .no) else .no
theorem ev_dget2 (ha : EV Γ W ta ma) (hb : EV Γ W tb mb) (hc : EV Γ W tc mc) : EV Γ W (tDGet2 ta tb tc) (mDGet2 ma mb mc) := fun σ H Q ⟨ω, δ, μ, hg, he, hw, h⟩ =>
  ha σ H _ ⟨ω, δ, μ, hg, he, hw, h.split fun a μ1 x ω1 H1 l1 w1 r1 h1 => by
    split at h1
    · rename_i hs
      cases e0 : asK μ1 a with
      | none =>
        rw [e0] at hs
        cases hs
      | some kvs0 =>
        obtain ⟨i, p, vs0, rfl, rfl, hα, hB, hx, rk0⟩ := asK_ok w1 r1 e0
        refine ⟨p, rfl, .inl ⟨vs0, .inl hx⟩, hb σ H1 _ ⟨ω1, δ, μ1, l1.g.trans hg, he.mono l1, w1, h1.split fun b μ2 y ω2 H2 l2 w2 r2 h2 => hc σ H2 _ ⟨ω2, δ, μ2, l2.g.trans (l1.g.trans hg), (he.mono l1).mono l2, w2, GoE.split (f := fun z μ3 => match asK μ3 (.ptr i), keyD b with
          | some kvs, some k => .ok ((valD kvs k).getD z) μ3
          | _, _ => .no) h2 fun c μ3 z ω3 H3 l3 w3 r3 h3 => ?_⟩⟩⟩
        split at h3
        · rename_i kvs k e1 e2
          obtain ⟨i', p', vs, ei, ex, hα', hB', hx', rk⟩ := asK_ok w3 ((r1.mono l2).mono l3) e1
          cases ex
          refine ⟨valV vs k, .inl ⟨vs, k, .inl hx', keyD_ok (r2.mono l3) e2, rfl⟩, ?_⟩
          cases e : valD kvs k with
          | none =>
            rw [(rk.val (k := k)).2 e]
            rw [e] at h3
            exact h3.ok w3 r3
          | some d =>
            obtain ⟨v, hv, rv⟩ := (rk.val (k := k)).1 d e
            rw [hv]
            rw [e] at h3
            exact h3.ok w3 rv
        · exact h3.elim
    · exact h1.elim⟩
/-- d.pop(k) -/
def mDPop1 (a b : MX) : MX := fun δ μ => (a δ μ).bind fun x μ1 => if (asK μ1 x).isSome = true then (b δ μ1).bind fun y μ2 => (match x, asK μ2 x, keyD y with
  | .ptr i, some kvs, some k => (match valD kvs k with
    | some d => .ok d (μ2.set i (.dK (dropKD kvs k)))
    | none => .no)
  | _, _, _ => .no) else .no
theorem ev_dpop1 (ha : EV Γ W ta ma) (hb : EV Γ W tb mb) : EV Γ W (tDPop1 ta tb) (mDPop1 ma mb) := fun σ H Q ⟨ω, δ, μ, hg, he, hw, h⟩ =>
  ha σ H _ ⟨ω, δ, μ, hg, he, hw, h.split fun a μ1 x ω1 H1 l1 w1 r1 h1 => by
    split at h1
    · rename_i hs
      cases e0 : asK μ1 a with
      | none =>
        rw [e0] at hs
        cases hs
      | some kvs0 =>
        obtain ⟨i, p, vs0, rfl, rfl, hα, hB, hx, rk0⟩ := asK_ok w1 r1 e0
        refine ⟨p, rfl, .inl ⟨vs0, .inl hx⟩, hb σ H1 _ ⟨ω1, δ, μ1, l1.g.trans hg, he.mono l1, w1, GoE.split (f := fun y μ2 => match Dt.ptr i, asK μ2 (.ptr i), keyD y with
          | .ptr i, some kvs, some k => (match valD kvs k with
            | some d => .ok d (μ2.set i (.dK (dropKD kvs k)))
            | none => .no)
          | _, _, _ => .no) h1 fun b μ2 y ω2 H2 l2 w2 r2 h2 => ?_⟩⟩
        split at h2
        · rename_i i1 kvs k e0 e1 e2
          cases e0
          split at h2
          · rename_i d e3
            obtain ⟨i', p', vs, ei, ex, hα', hB', hx', rk⟩ := asK_ok w2 (r1.mono l2) e1
            cases ex
            cases ei
            obtain ⟨v, hv, rv⟩ := (rk.val (k := k)).1 d e3
            exact ⟨vs, k, v, hx', keyD_ok r2 e2, hv, h2 v ω2 _ (Le.refl _) (w2.put hα' hB' ⟨hB', _, upd_same, rk.dropk⟩) rv⟩
          · exact h2.elim
        · exact h2.elim
    · exact h1.elim⟩
/-- d[k] = v -/
def stPut (δ : Env) (y x z : Dt) (μ : Mem) : O := match x, asK μ x, keyD z with
  | .ptr i, some kvs, some k => if kvs.length ≤ 1000000 then .nx δ (μ.set i (.dK (putKD kvs k y))) else .no
  | _, _, _ => .no
def sDPutM (v d k : MX) : MS := fun δ μ => (v δ μ).thn δ fun y μ1 => (d δ μ1).thn δ fun x μ2 => (k δ μ2).thn δ fun z μ3 => stPut δ y x z μ3
theorem sv_dput (hv : EV Γ W tc mc) (hd : EV Γ W ta ma) (hk : EV Γ W tb mb) : SV Γ W (sDPut ta tb tc) (sDPutM mc ma mb) := fun D σ H ⟨ω, δ, μ, hg, he, hw, h⟩ =>
  hv σ H _ ⟨ω, δ, μ, hg, he, hw, GoE.splitS (f := fun y μ1 => (ma δ μ1).thn δ fun x μ2 => (mb δ μ2).thn δ fun z μ3 => stPut δ y x z μ3) he h fun y μ1 v ω1 H1 l1 w1 r1 h1 => hd σ H1 _ ⟨ω1, δ, μ1, l1.g.trans hg, he.mono l1, w1, GoE.splitS (f := fun x μ2 => (mb δ μ2).thn δ fun z μ3 => stPut δ y x z μ3) (he.mono l1) h1 fun x μ2 u ω2 H2 l2 w2 r2 h2 => hk σ H2 _ ⟨ω2, δ, μ2, l2.g.trans (l1.g.trans hg), (he.mono l1).mono l2, w2, GoE.splitS (f := fun z μ3 => stPut δ y x z μ3) ((he.mono l1).mono l2) h2 fun z μ3 w ω3 H3 l3 w3 r3 h3 => by
    unfold stPut at h3
    split at h3
    · rename_i i kvs k e2 e1
      split at h3
      · rename_i hl
        obtain ⟨i', p, vs, ei, rfl, hα, hB, hx, rk⟩ := asK_ok w3 (r2.mono l3) e1
        cases ei
        have hc : kvs.length < sizeLine := Nat.lt_of_le_of_lt hl (show 1000000 < sizeLine by decide)
        refine ⟨p, _, rfl, .inl ⟨vs, k, hx, keyD_ok r3 e2, by rw [rk.len]; exact hc, rfl⟩, ?_⟩
        exact h3 σ ω3 _ (Le.refl _) (w3.put hα hB ⟨hB, _, upd_same, rk.putk ((r1.mono l2).mono l3)⟩) (((he.mono l1).mono l2).mono l3)
      · exact h3.elim
    · exact h3.elim⟩⟩⟩
/-- d.clear() -/
def bDClear (a : Dt) (ds : List Dt) (μ : Mem) : R Dt := match a, asK μ a, ds with
  | .ptr i, some _, [] => .ok .non (μ.set i (.dK []))
  | _, _, _ => .no
theorem rm_dclear : RM rDClear bDClear := fun W ω σ μ H x a xs ds Q w ra r h => by
  unfold bDClear at h
  split at h
  · rename_i i kvs e
    obtain ⟨i', p, vs, ei, rfl, hα, hB, hx, rk⟩ := asK_ok w ra e
    cases ei
    cases r
    exact ⟨p, vs, rfl, rfl, hx, h _ ω _ (Le.refl _) (w.put hα hB ⟨hB, [], upd_same, .nil⟩) .non⟩
  · exact h.elim
end
/-! ### sorted texts -/
def leS (x y : Str) : Bool := !ltCps y.cps.toList x.cps.toList
def insS (x : Str) : List Str → List Str
  | [] => [x]
  | y :: r => if leS x y = true then x :: y :: r else y :: insS x r
def sortS : List Str → List Str
  | [] => []
  | x :: r => insS x (sortS r)
end DM

set_option linter.all false
set_option maxRecDepth 100000
set_option maxHeartbeats 4000000
/-! DMA: what the printer needs for classes; what is never reached. -/
namespace DM
open PySem PySem.Spec PyProof.Rows L2
open Classical
/-! ### what is never reached -/
def tStuck : TS := fun _ _ _ => False
def sStuck : MS := fun _ _ => .no
theorem ps_stuck {X : Cx} {st : Stmt} : PS X st tStuck := ⟨fun _ _ _ _ _ _ h => h.elim⟩
theorem sv_stuck {Γ : Gm} {W : WX} : SV Γ W tStuck sStuck := fun D σ H ⟨ω, δ, μ, hg, he, hw, h⟩ => h
def tStuckE : TE := fun _ _ _ => False
def mStuck : MX := fun _ _ => .no
theorem pe_stuck {X : Cx} {e : Expr} : PE X e tStuckE := ⟨fun _ _ _ _ _ _ h => h.elim⟩
theorem ev_stuck {Γ : Gm} {W : WX} : EV Γ W tStuckE mStuck := fun σ H Q ⟨ω, δ, μ, hg, he, hw, h⟩ => h
theorem k_dclear {X : Cx} {K : PySem.W.Frag} (hK : X.K = K) {o : Expr} {to : TE} {apos cpos : Pos} (ho : PE X o to) (hbase : attributeBase o "clear" X.env (eval o X.env) = eval o X.env := by rfl) (hline : (apos.endLine == cpos.line) = true := by rfl) : PE X (.Call (.Attribute o "clear" apos) [] [] cpos) (tBM0 K "dict" rDClear to) := hK ▸ pe_dclear ho hbase hline
/-! ### defs in classes -/
structure DefN (P : Program) (w : World) (K : PySem.W.Frag) (mg : Str → Option Value) (base : Heap) (C : Addr) (m qual : Str) (st : Stmt) (k : Nat) (ps : List Str) (kws : List (Str × V)) (sp : Sp) : Prop where
  ex : ∃ g fd, FunD K m qual (defArgs st) (defBody st) (defScope st) [] kws g fd ∧ FnOk P w K mg base (L2.CX P w) k g fd ps sp ∧ Cls K C ∧ Meth K C m g
structure DefI (P : Program) (w : World) (K : PySem.W.Frag) (mg : Str → Option Value) (base : Heap) (C : Addr) (qual : Str) (st : Stmt) (k : Nat) (ps : List Str) (kws : List (Str × V)) (sp : Sp) : Prop where
  ex : ∃ g fd, FunD K "__init__" qual (defArgs st) (defBody st) (defScope st) [] kws g fd ∧ FnOk P w K mg base (L2.CX P w) k g fd ps sp ∧ Mk K C g
section
variable {P : Program} {w : World} {K : PySem.W.Frag} {mg : Str → Option Value} {base : Heap} {Γ : Gm} {cn k : Nat} {m qual : Str} {st : Stmt} {ps : List Str} {kd : List (Str × V)} {f : List Dt → Mem → R Dt}
theorem methB_of (D : DefN P w K mg base (Γ.c cn) m qual st k ps kd (FM Γ f)) (n : Nat) (ks : List Str) (ms : List (Str × V)) (idx : List Nat) (hms : ∀ q ∈ ms, q ∈ kd)
    (h : ∀ (dk doc pm' : Value) (D : Addr) (an : Option Addr) (cdv ct : Value) (us mv ws : List Value), (kd ≠ [] → dk = .ref D) → us.length = n + 1 → mv.length = ms.length → ws.length = ks.length →
      KwChain D ((ms.map (·.1)).zip mv) (bindArgs (PySem.W.fnOf m qual (defArgs st) (defBody st) (defScope st) .none dk doc pm' an cdv ct) ⟨us, ks.zip ws⟩) (ps.zip (pm idx (us ++ mv ++ ws)))) :
    MethB P w K mg base Γ m cn k n ks (fun vs zs => pm idx (vs ++ ms.map (·.2) ++ zs)) f := by
  obtain ⟨g, fd, F, G, c, M⟩ := D.ex
  obtain ⟨mv, hb⟩ := FunD.kbinds0 F (n + 1) ks ms (fun us ms ws => pm idx (us ++ ms ++ ws)) hms (fun r1 r2 r3 => pm_vals ((r1.append r2).append r3) idx) h
  exact ⟨g, fd, ps, _, c, M, G, hb⟩
/-- one class alone -/
def tbl1 (cn : Nat) (f : List Dt → Mem → R Dt) : Nat → Option (List Dt → Mem → R Dt) := fun n => if n = cn then some f else none
@[simp] theorem tbl1_self {f : List Dt → Mem → R Dt} : tbl1 cn f cn = some f := if_pos rfl
theorem tbl1_of {n k' : Nat} {ks : List Str} {gV : List V → List V → List V} (D : MethB P w K mg base Γ m cn k' n ks gV f) : ∀ c g, tbl1 cn f c = some g → MethB P w K mg base Γ m c k' n ks gV g := fun c g e => by
  unfold tbl1 at e
  split at e
  · rename_i hc
    cases e
    rw [hc]
    exact D
  · cases e
end
section
variable {X : Cx} {k n : Nat} {ps ks : List Str} {sp : Sp} {x qual : Str} {p pos : Pos} {e : Expr} {es : List Expr} {kws : List Keyword} {t tk : TA} {st : Stmt} {kd : List (Str × V)} {W : WX} {C : Addr}
theorem pe_mI (D : DefI X.prog X.w X.K X.mg X.base C qual st k ps kd sp) (n : Nat) (ks : List Str) (ms : List (Str × V)) (idx : List Nat) (hms : ∀ q ∈ ms, q ∈ kd)
    (h : ∀ (dk doc pm' : Value) (D : Addr) (an : Option Addr) (cdv ct : Value) (us mv ws : List Value), (kd ≠ [] → dk = .ref D) → us.length = n + 1 → mv.length = ms.length → ws.length = ks.length →
      KwChain D ((ms.map (·.1)).zip mv) (bindArgs (PySem.W.fnOf "__init__" qual (defArgs st) (defBody st) (defScope st) .none dk doc pm' an cdv ct) ⟨us, ks.zip ws⟩) (ps.zip (pm idx (us ++ mv ++ ws))))
    (hr : Room (k + 1) X.A) (tk' : Takes X W) (hg : Gl X x) (hm : X.mg x = some (.ref C)) (ha : PA X (e :: es) t) (hkw : PK X kws tk) (hall : (backToKw pos (keywordEach kws X.env)).all (·.1.isSome) = true := by rfl) (hks : (backToKw pos (keywordEach kws X.env)).filterMap (·.1) = ks := by rfl)
    (hdb : (x == ("__debug__" : Str)) = false := by decide) (he : starEach (e :: es) X.env = (false, eval e X.env) :: starEach es X.env := by rfl)
    (hpl : ((backTo pos (starEach (e :: es) X.env)).any (·.1) || (backToKw pos (keywordEach kws X.env)).any (·.1.isNone)) = false := by rfl) :
    PE X (.Call (.Name x p) (e :: es) kws pos) (tMakeNS C n ks.length sp (fun vs zs => pm idx (vs ++ ms.map (·.2) ++ zs)) (WE W) t tk) := by
  obtain ⟨f, fd, F, G, M⟩ := D.ex
  obtain ⟨mv, hb⟩ := FunD.kbinds0 F (n + 1) ks ms (fun us ms ws => pm idx (us ++ ms ++ ws)) hms (fun r1 r2 r3 => pm_vals ((r1.append r2).append r3) idx) h
  exact pe_mkNS M G hr hg hm hb (fun σ => passAt tk' σ) ha hkw hall hks hdb he hpl
theorem pe_mI0 (D : DefI X.prog X.w X.K X.mg X.base C qual st k ps kd sp) (ks : List Str) (ms : List (Str × V)) (idx : List Nat) (hms : ∀ q ∈ ms, q ∈ kd)
    (h : ∀ (dk doc pm' : Value) (D : Addr) (an : Option Addr) (cdv ct : Value) (us mv ws : List Value), (kd ≠ [] → dk = .ref D) → us.length = 0 + 1 → mv.length = ms.length → ws.length = ks.length →
      KwChain D ((ms.map (·.1)).zip mv) (bindArgs (PySem.W.fnOf "__init__" qual (defArgs st) (defBody st) (defScope st) .none dk doc pm' an cdv ct) ⟨us, ks.zip ws⟩) (ps.zip (pm idx (us ++ mv ++ ws))))
    (hr : Room (k + 1) X.A) (tk' : Takes X W) (hg : Gl X x) (hm : X.mg x = some (.ref C)) (hkw : PK X kws tk) (hall : (backToKw pos (keywordEach kws X.env)).all (·.1.isSome) = true := by rfl) (hks : (backToKw pos (keywordEach kws X.env)).filterMap (·.1) = ks := by rfl)
    (hdb : (x == ("__debug__" : Str)) = false := by decide)
    (hpl : ((backTo pos (starEach [] X.env)).any (·.1) || (backToKw pos (keywordEach kws X.env)).any (·.1.isNone)) = false := by rfl) :
    PE X (.Call (.Name x p) [] kws pos) (tMakeNS C 0 ks.length sp (fun vs zs => pm idx (vs ++ ms.map (·.2) ++ zs)) (WE W) tNil tk) := by
  obtain ⟨f, fd, F, G, M⟩ := D.ex
  obtain ⟨mv, hb⟩ := FunD.kbinds0 F (0 + 1) ks ms (fun us ms ws => pm idx (us ++ ms ++ ws)) hms (fun r1 r2 r3 => pm_vals ((r1.append r2).append r3) idx) h
  exact pe_mkNS0 M G hr hg hm hb (fun σ => passAt tk' σ) hkw hall hks hdb hpl
theorem pe_mIP (D : DefI X.prog X.w X.K X.mg X.base C qual st k ps kd sp) (n : Nat) (ms : List (Str × V)) (idx : List Nat) (hms : ∀ q ∈ ms, q ∈ kd)
    (h : ∀ (dk doc pm' : Value) (D : Addr) (an : Option Addr) (cdv ct : Value) (us mv ws : List Value), (kd ≠ [] → dk = .ref D) → us.length = n + 1 → mv.length = ms.length → ws.length = 0 →
      KwChain D ((ms.map (·.1)).zip mv) (bindArgs (PySem.W.fnOf "__init__" qual (defArgs st) (defBody st) (defScope st) .none dk doc pm' an cdv ct) ⟨us, []⟩) (ps.zip (pm idx (us ++ mv ++ ws))))
    (hr : Room (k + 1) X.A) (tk' : Takes X W) (hg : Gl X x) (hm : X.mg x = some (.ref C)) (ha : PA X (e :: es) t)
    (hdb : (x == ("__debug__" : Str)) = false := by decide) (he : starEach (e :: es) X.env = (false, eval e X.env) :: starEach es X.env := by rfl) (hpl : (backTo pos (starEach es X.env)).any (·.1) = false := by rfl) :
    PE X (.Call (.Name x p) (e :: es) [] pos) (tMakeNS C n 0 sp (fun vs zs => pm idx (vs ++ ms.map (·.2) ++ zs)) (WE W) t tNil) := by
  obtain ⟨f, fd, F, G, M⟩ := D.ex
  obtain ⟨mv, hb⟩ := FunD.kbinds0 F (n + 1) [] ms (fun us ms ws => pm idx (us ++ ms ++ ws)) hms (fun r1 r2 r3 => pm_vals ((r1.append r2).append r3) idx) (fun dk doc pm D an cdv ct us mv ws => h dk doc pm D an cdv ct us mv ws)
  exact pe_mkNP M G hr hg hm hb (fun σ => passAt tk' σ) ha hdb he hpl
theorem pe_mIP0 (D : DefI X.prog X.w X.K X.mg X.base C qual st k ps kd sp) (ms : List (Str × V)) (idx : List Nat) (hms : ∀ q ∈ ms, q ∈ kd)
    (h : ∀ (dk doc pm' : Value) (D : Addr) (an : Option Addr) (cdv ct : Value) (us mv ws : List Value), (kd ≠ [] → dk = .ref D) → us.length = 0 + 1 → mv.length = ms.length → ws.length = 0 →
      KwChain D ((ms.map (·.1)).zip mv) (bindArgs (PySem.W.fnOf "__init__" qual (defArgs st) (defBody st) (defScope st) .none dk doc pm' an cdv ct) ⟨us, []⟩) (ps.zip (pm idx (us ++ mv ++ ws))))
    (hr : Room (k + 1) X.A) (tk' : Takes X W) (hg : Gl X x) (hm : X.mg x = some (.ref C)) (hdb : (x == ("__debug__" : Str)) = false := by decide) :
    PE X (.Call (.Name x p) [] [] pos) (tMakeNS C 0 0 sp (fun vs zs => pm idx (vs ++ ms.map (·.2) ++ zs)) (WE W) tNil tNil) := by
  obtain ⟨f, fd, F, G, M⟩ := D.ex
  obtain ⟨mv, hb⟩ := FunD.kbinds0 F (0 + 1) [] ms (fun us ms ws => pm idx (us ++ ms ++ ws)) hms (fun r1 r2 r3 => pm_vals ((r1.append r2).append r3) idx) (fun dk doc pm D an cdv ct us mv ws => h dk doc pm D an cdv ct us mv ws)
  exact pe_mkNP0 M G hr hg hm hb (fun σ => passAt tk' σ) hdb
end
section
variable {X : Cx} {k : Nat} {ps : List Str} {sp : Sp} {x : Str} {p pos : Pos} {st : Stmt} {kd : List (Str × V)} {W : WX}
/-- f() -/
theorem pe_dMP0 (D : DefM X.prog X.w X.K X.mg X.base x st k ps kd sp) (ms : List (Str × V)) (idx : List Nat) (hms : ∀ q ∈ ms, q ∈ kd)
    (h : ∀ (dk doc pm' : Value) (D : Addr) (an : Option Addr) (cdv ct : Value) (us mv ws : List Value), (kd ≠ [] → dk = .ref D) → us.length = 0 → mv.length = ms.length → ws.length = 0 →
      KwChain D ((ms.map (·.1)).zip mv) (bindArgs (PySem.W.fnOf x x (defArgs st) (defBody st) (defScope st) .none dk doc pm' an cdv ct) ⟨us, []⟩) (ps.zip (pm idx (us ++ mv ++ ws))))
    (hr : Room k X.A) (tk' : Takes X W) (hg : Gl X x) (hdb : (x == ("__debug__" : Str)) = false := by decide) :
    PE X (.Call (.Name x p) [] [] pos) (tCallNS 0 0 sp (fun vs zs => pm idx (vs ++ ms.map (·.2) ++ zs)) (WE W) tNil tNil) := by
  obtain ⟨f, fd, F, G, gm⟩ := D.ex
  obtain ⟨mv, hb⟩ := FunD.kbinds0 F 0 [] ms (fun us ms ws => pm idx (us ++ ms ++ ws)) hms (fun r1 r2 r3 => pm_vals ((r1.append r2).append r3) idx) (fun dk doc pm D an cdv ct us mv ws => h dk doc pm D an cdv ct us mv ws)
  refine ⟨fun pins s σ H Q I hq => wpAny_Call_Name_kw (ld_glob I hg gm ?_ hdb)⟩
  obtain ⟨l1, l2, q2⟩ := (show ([] : List V).length = 0 ∧ ([] : List V).length = 0 ∧ _ from hq)
  exact PySem.W.callWith_K0 I.kIn F.kp (run_fnNS (n := 0) (ks := []) (us := []) (ws := []) (vs := []) (zs := []) G hr hb (passAt tk' σ) I .nil .nil rfl rfl q2)
end
/-- a def of a class keeps its function -/
theorem okN {P : Program} {w : World} {K : PySem.W.Frag} {mg : Str → Option Value} {base : Heap} {Γ : Gm} {x qual : Str} {st : Stmt} {f : Addr} {fd : FuncData} {N ps : List Str} {k : Nat} {b : MS} {kws : List (Str × V)} (F : FunD K x qual (defArgs st) (defBody st) (defScope st) [] kws f fd) (S : FnScope N ps (defScope st))
    (hbody : ∀ (cdv : Value) (A : Around) (outer : List PySem.Env) (s : Shared) (H : Hp) (E : XK), Room k (A.deeper (envOfC qual (defScope st) s.heap.objs.size f cdv)) →
      ∃ t, PSs (cxOf (L2.CX P w) P w K mg base N qual (defScope st) f cdv A outer s H E) (defBody st) t ∧ SV Γ (fun cls d _ H => E cls d H) t b) :
    FnOk P w K mg base (L2.CX P w) (k + 1) f fd ps (FM Γ (mDef N.length ps.length b)) :=
  F.ok S (fun vs H Q E ⟨ω, ds, μ, hg, r, hw, h⟩ => by
    unfold mDef at h
    split at h
    · rename_i hl
      rw [r.len]
      exact hl
    · exact h.elim) fun cdv A outer s H vs Q E hr ⟨ω, ds, μ, hg, r, hw, h⟩ => by
    obtain ⟨t, h1, hq⟩ := hbody cdv A outer s H E hr
    refine ⟨t, h1, hq _ _ H ⟨ω, _, μ, hg, EnvR.start r N, hw, ?_⟩⟩
    unfold mDef at h
    split at h
    · rename_i hl
      rw [← hl] at h
      revert h
      cases b (ds.map some ++ List.replicate (N.length - ds.length) none) μ with
      | nx δ' μ' => exact fun h σ' ω' H' l w' e' => h .non ω' H' l w' .non
      | rt d μ' => exact fun h => h
      | bk δ' μ' => exact fun h => h.elim
      | ct δ' μ' => exact fun h => h.elim
      | ex n ns es δ' μ' => exact fun h dd σ' ω' H' l w' e' x => h dd ω' H' l w' x
      | no => exact fun h => h
    · exact h.elim
theorem funN_mk {K : PySem.W.Frag} {x qual : Str} {st : Stmt} {f D : Addr} {oc : Value} {od an : Option Addr} {osl : Array (Option Value)} {doc pm cdv ct : Value} {kws : List (Str × V)} (l : K.lookup f = some ⟨oc, od, .func (PySem.W.fnOf x qual (defArgs st) (defBody st) (defScope st) .none (.ref D) doc pm an cdv ct), osl⟩)
    (c : PySem.W.codeIn K cdv qual = true) (k : PySem.W.keepIn K (.ref f) = true) (h : ∀ q ∈ kws, ∃ u, PySem.W.nsIn K D q.1 = some (some u) ∧ RelV q.2 u) :
    FunD K x qual (defArgs st) (defBody st) (defScope st) [] kws f (PySem.W.fnOf x qual (defArgs st) (defBody st) (defScope st) .none (.ref D) doc pm an cdv ct) :=
  ⟨⟨oc, od, _, _, doc, pm, an, cdv, ct, osl, rfl, l, c, .inl ⟨rfl, rfl⟩, .inr ⟨D, rfl, h⟩⟩, k⟩
theorem funN_of {K : PySem.W.Frag} {x qual : Str} {st : Stmt} {f : Addr} {fd : FuncData} (F : Fun K x qual st f fd) : FunD K x qual (defArgs st) (defBody st) (defScope st) [] [] f fd := by
  obtain ⟨oc, od, kV, doc, pm, an, cdv, ct, osl, rfl, lk, hcd⟩ := F.ex
  exact ⟨⟨oc, od, _, kV, doc, pm, an, cdv, ct, osl, rfl, lk, hcd, .inl ⟨rfl, rfl⟩, .inl rfl⟩, F.kp⟩
/-- facts about fields by a table -/
def fldT (rows : List (Nat × Str)) : Nat → Str → Bool := fun n f => rows.any fun r => r.1 == n && r.2 == f
theorem fldT_ok {K : PySem.W.Frag} {Γ : Gm} {rows : List (Nat × Str)} (h : ∀ r ∈ rows, Cls K (Γ.c r.1) ∧ NoAttr K (Γ.c r.1) r.2) : InsOk K Γ (fldT rows) := fun n f e => by
  obtain ⟨r, hr, q⟩ := List.any_eq_true.mp e
  rw [Bool.and_eq_true, beq_iff_eq, beq_iff_eq] at q
  obtain ⟨rfl, rfl⟩ := q
  exact h r hr
theorem fldX_ok {K : PySem.W.Frag} {Γ : Gm} {rows : List (Nat × Str)} (h : ∀ r ∈ rows, ExC K (Γ.c r.1) ∧ PySem.W.findIn K (.ref (Γ.c r.1)) r.2 = some none) : NoOk K Γ (fldT rows) := fun n f e => by
  obtain ⟨r, hr, q⟩ := List.any_eq_true.mp e
  rw [Bool.and_eq_true, beq_iff_eq, beq_iff_eq] at q
  obtain ⟨rfl, rfl⟩ := q
  exact h r hr
end DM

set_option linter.all false
set_option maxRecDepth 100000
set_option maxHeartbeats 4000000
/-! DMB: sorted texts; a target with a rest. -/
namespace DM
open PySem PySem.Spec PyProof.Rows L2
open Classical
def ltS (x y : Str) : Bool := !decide (y.cps.toList < x.cps.toList)
theorem ltS_le {x y : Str} : ltS x y = true ↔ x.cps.toList ≤ y.cps.toList := by
  unfold ltS
  simp
theorem ltS_trans {x y z : Str} (h : ltS x y = true) (k : ltS y z = true) : ltS x z = true := ltS_le.mpr (List.le_trans (ltS_le.mp h) (ltS_le.mp k))
theorem ltS_total (x y : Str) : (ltS x y || ltS y x) = true := by
  rw [Bool.or_eq_true, ltS_le, ltS_le]
  exact List.le_total _ _
theorem ltS_anti {x y : Str} (h : ltS x y = true) (k : ltS y x = true) : x = y := Str.ext' (Array.toList_inj.mp (List.le_antisymm (ltS_le.mp h) (ltS_le.mp k)))
def sortT (l : List Str) : List Str := l.mergeSort ltS
theorem sortT_perm (l : List Str) : (sortT l).Perm l := List.mergeSort_perm l ltS
theorem sortT_pw (l : List Str) : (sortT l).Pairwise fun x y => ltS x y = true := List.pairwise_mergeSort (le := ltS) (fun x y z h k => ltS_trans (x := x) (y := y) (z := z) h k) (fun x y => ltS_total x y) l
theorem rising_pw : ∀ (l : List Str) (p : Str), risingS p l = true → (p :: l).Pairwise fun x y => ltS x y = true
  | [], p, _ => by simp
  | x :: r, p, h => by
    unfold risingS at h
    rw [Bool.and_eq_true] at h
    have ih := rising_pw r x h.2
    have hpx : ltS p x = true := by
      unfold ltS
      rw [← ltCps_eq]
      exact h.1
    rw [List.pairwise_cons] at ih ⊢
    refine ⟨fun y hy => ?_, List.pairwise_cons.mpr ih⟩
    rcases List.mem_cons.mp hy with rfl | hy
    · exact hpx
    · exact ltS_trans hpx (ih.1 y hy)
theorem sorted_pw : ∀ {l : List Str}, sortedS l = true → l.Pairwise fun x y => ltS x y = true
  | [], _ => List.Pairwise.nil
  | x :: r, h => rising_pw r x h
theorem sorted_eq {l m : List Str} (p : l.Perm m) (h : sortedS l = true) : l = sortT m :=
  List.Perm.eq_of_pairwise (le := fun x y => ltS x y = true) (fun x y _ _ h k => ltS_anti h k) (sorted_pw h) (sortT_pw m) (p.trans (sortT_perm m).symm)
/-! sorted(d), sorted(texts) -/
def asTK : List (Key × Dt) → Option (List Str)
  | [] => some []
  | (.inr x, _) :: r => (asTK r).map (x :: ·)
  | _ => none
theorem asTK_ok : ∀ {kvs : List (Key × Dt)} {ks : List Str}, asTK kvs = some ks → kvs.map (·.1) = ks.map Sum.inr
  | [], ks, h => by cases h; rfl
  | (.inr x, _) :: r, ks, h => by
    unfold asTK at h
    obtain ⟨l, e, rfl⟩ := Option.map_eq_some_iff.mp h
    rw [List.map_cons, List.map_cons, asTK_ok e]
  | (.inl x, _) :: r, ks, h => by cases h
def rSortU (K : PySem.W.Frag) : List V → Hp → VK → Prop := fun xs H Q => rSortedS K xs H Q ∨ ∃ (a : Addr) (kvs : List (Key × V)) (ks : List Str), xs = [.ref a] ∧ Rd H a (.dK kvs) ∧ kvs.map (·.1) = ks.map Sum.inr ∧ ks.length < 64 ∧
    ∀ ys p, ys.Perm ks → sortedS ys = true → H p = none → Q (.ref p) (upd H p (.lst (ys.map V.str)))
theorem k_sortU {X : Cx} {K : PySem.W.Frag} (hK : X.K = K) (hc : X.calm = true) : CallR X (.builtin "sorted") (rSortU K) := fun pins s σ H xs us Q I r h => by
  subst hK
  rcases h with h | h
  · exact cr_sortedS pins s σ H xs us Q I r h
  · exact call_sortedD hc pins s σ H xs us Q I r h
def cSort (ds : List Dt) (μ : Mem) : R Dt := match ds with
  | [d] => match (asL μ d).bind asT with
    | some ks => if ks.length < 64 then .ok (.lst (strsD (sortT ks))) μ else .no
    | none => match (asK μ d).bind asTK with
      | some ks => if ks.length < 64 then .ok (.lst (strsD (sortT ks))) μ else .no
      | none => .no
  | _ => .no
def cSortN (ds : List Dt) (μ : Mem) : R Dt := match ds with
  | [d] => match (asL μ d).bind asT with
    | some ks => if ks.length < 64 then .ok (.ptr μ.length) (μ ++ [.lst (strsD (sortT ks))]) else .no
    | none => match (asK μ d).bind asTK with
      | some ks => if ks.length < 64 then .ok (.ptr μ.length) (μ ++ [.lst (strsD (sortT ks))]) else .no
      | none => .no
  | _ => .no
section
variable {Γ : Gm} {W : WX} {K : PySem.W.Frag}
theorem sort_src {ω : Wd} {μ : Mem} {H : Hp} {v : V} {d : Dt} {Q : VK} (w : WR ω μ H) (rv : Rp ω v d) : (∀ ks, (asL μ d).bind asT = some ks → ks.length < 64 → (∀ p, H p = none → Q (.ref p) (upd H p (.lst ((sortT ks).map V.str)))) → rSortU K [v] H Q) ∧
    ∀ ks, (asK μ d).bind asTK = some ks → ks.length < 64 → (∀ p, H p = none → Q (.ref p) (upd H p (.lst ((sortT ks).map V.str)))) → rSortU K [v] H Q := by
  refine ⟨fun ks e hl q => ?_, fun ks e hl q => ?_⟩
  · obtain ⟨es, e1, e2⟩ := Option.bind_eq_some_iff.mp e
    obtain ⟨p, ys, rfl, hq, rr⟩ := asL_ok w rv e1
    rw [asT_eq e2] at rr
    have := rr.of_strs
    subst this
    refine .inl ⟨p, ks, rfl, .inl (.inl hq), hl, fun ys p' hp hs hn => ?_⟩
    rw [sorted_eq hp hs]
    exact q p' hn
  · obtain ⟨kvs, e1, e2⟩ := Option.bind_eq_some_iff.mp e
    obtain ⟨i, p, vs, rfl, rfl, hα, hB, hx, rk⟩ := asK_ok w rv e1
    refine .inr ⟨p, vs, ks, rfl, .inl hx, by rw [rk.keys]; exact asTK_ok e2, hl, fun ys p' hp hs hn => ?_⟩
    rw [sorted_eq hp hs]
    exact q p' hn
theorem rc_sort : RC Γ (rSortU K) cSort := fun W ω σ μ H xs ds Q hg w r h => by
  unfold cSort at h
  split at h
  · obtain ⟨v, rfl, rv⟩ := r.one
    obtain ⟨s1, s2⟩ := sort_src (K := K) (Q := Q) w rv
    split at h
    · rename_i ks e
      split at h
      · rename_i hl
        exact s1 ks e hl fun p hp => h.new w (RpL.strs _) hp
      · exact h.elim
    · split at h
      · rename_i ks e
        split at h
        · rename_i hl
          exact s2 ks e hl fun p hp => h.new w (RpL.strs _) hp
        · exact h.elim
      · exact h.elim
  · exact h.elim
theorem rc_sortN : RC Γ (rSortU K) cSortN := fun W ω σ μ H xs ds Q hg w r h => by
  unfold cSortN at h
  split at h
  · obtain ⟨v, rfl, rv⟩ := r.one
    obtain ⟨s1, s2⟩ := sort_src (K := K) (Q := Q) w rv
    split at h
    · rename_i ks e
      split at h
      · rename_i hl
        exact s1 ks e hl fun p hp => h.newM w (RpL.strs _) hp
      · exact h.elim
    · split at h
      · rename_i ks e
        split at h
        · rename_i hl
          exact s2 ks e hl fun p hp => h.newM w (RpL.strs _) hp
        · exact h.elim
      · exact h.elim
  · exact h.elim
end
end DM

set_option linter.all false
set_option maxRecDepth 100000
set_option maxHeartbeats 4000000
/-! DMC: first, *rest = a tuple. -/
namespace DM
open PySem PySem.Spec PyProof.Rows L2
section
variable {prog : Program} {w : World} {A : Around} {E : Value → Shared → Prop}
/-- what is left of a tuple that is walked -/
theorem walks_rest (hh : A.handled = none) {it t : Addr} (hne : t ≠ it) (items : Array Value) (k : Nat) (hk : k ≤ items.size) :
    WalksS prog w A it [it, t] [it] (fun a b => b = a) (items.size - k) (fun i v => items[k + i]? = some v) (fun i s => IsTupIter s.heap it t (k + i) ∧ IsTup s.heap t items) where
  sub := fun b hb => by rw [List.mem_singleton.mp hb]; simp
  grefl := fun _ => rfl
  gtrans := fun _ _ _ h1 h2 => h2.trans h1
  frame := fun i s h' tk st _ hk' => by
    obtain ⟨⟨o, ho, r⟩, ⟨o2, ho2, r2⟩⟩ := st
    exact ⟨⟨o, hk' it (by simp) _ ho, r⟩, ⟨o2, hk' t (by simp) _ ho2, r2⟩⟩
  item := fun i s Q E hi st hQ => by
    have hlt : k + i < items.size := by omega
    refine next_tuple_item st.1 st.2 (x := items[k + i]) (by simp [hlt]) fun h' hit hs => ?_
    exact hQ _ _ (by simp [hlt]) ⟨hit, st.2.extBut hs.extBut hne⟩ ⟨fun b o hb e => hs.extBut b o (fun z => hb (by simp [z])) e, rfl, rfl, rfl, Nat.le_refl _⟩
  done := fun s Q E st hQ => by
    have hx : items[k + (items.size - k)]? = none := by
      rw [Array.getElem?_eq_none_iff]
      omega
    exact next_tuple_end hh st.1 st.2 hx fun h' he => hQ _ ⟨fun b o hb e => he b o (fun z => hb (by simp [z])) e, rfl, rfl, rfl, Nat.le_refl _⟩
  self := fun i s Q E st hQ => wpAny_pyIter_tupleiter st.1 hQ
theorem rest_items {items : Array Value} {acc : Array Value} {x : Value} {r : List Value} (hi : items.toList = x :: r) (h : ItemsOf (fun i v => items[1 + i]? = some v) acc (items.size - 1)) : acc.toList = r := by
  have hs : items.size = r.length + 1 := by
    rw [← Array.length_toList, hi]
    rfl
  apply List.ext_getElem?
  intro j
  by_cases hj : j < acc.size
  · have e1 : acc[j]? = some acc[j] := by simp [hj]
    have e2 := h.2 j _ e1
    rw [Array.getElem?_toList, e1]
    have e3 : items.toList[1 + j]? = some acc[j] := by rw [Array.getElem?_toList]; exact e2
    rw [hi, Nat.add_comm, List.getElem?_cons_succ] at e3
    exact e3.symm
  · have h1 := h.1
    rw [List.getElem?_eq_none (by rw [Array.length_toList]; omega), List.getElem?_eq_none (by omega)]
theorem assign_star {env : PySem.Env} {elts : List Expr} {c : Nat} {pos : Pos} {t : Addr} {items : Array Value} {x : Value} {r : List Value} {s : Shared} {Q : Unit → Shared → Prop} (hh : A.handled = none) (ht : IsTup s.heap t items) (hi : items.toList = x :: r) (hz : items.size ≤ sizeLine)
    (hn : (assignEach elts env).length = 2) (hst : (assignEach elts env).findIdx? (·.1) = some 1)
    (h : ∀ (h' : Heap) (tk : Nat), (∀ b o, s.heap.get? b = some o → h'.get? b = some o) → wpAny (model prog w) A (assignInOrder ((assignEach elts env).map (·.2)) [x, .ref h'.objs.size]) Q E { s with heap := h'.push { cls := .type "list", data := .seq r.toArray }, toks := tk }) :
    wpAny (model prog w) A (assign (.Tuple elts c pos) env (.ref t)) Q E s := by
  have hlt : t ≠ s.heap.objs.size := by
    obtain ⟨o, ho, _⟩ := ht
    exact Nat.ne_of_lt (Heap.lt_size ho)
  have hs1 : 1 ≤ items.size := by
    rw [← Array.length_toList, hi]
    simp
  rw [assign_Tuple]
  refine wpAny_bind (wpAny_standAt ?_)
  unfold unpack
  rw [hn, hst]
  refine wpAny_bind (wpAny_holding ?_)
  unfold unpackItems
  refine wpAny_bind ?_
  unfold notIterableAtAll
  refine wpAny_bind (wpAny_specialOf ht.typeIs slot_tuple_iter.lookup ?_)
  refine wpAny_pure ?_
  simp only [Bool.false_eq_true, if_false]
  refine wpAny_bind (wpAny_holding (iter_tuple ht ?_))
  refine wpAny_bind (wpAny_holding (draw_tuple hlt 1 0 _ _ ⟨_, Heap.get?_push_size _ rfl, rfl, rfl⟩ (ht.push _) (by omega) fun h1 hit1 hs1' => ?_))
  have hfst : List.take 1 (List.drop 0 items.toList) = [x] := by rw [hi]; rfl
  rw [hfst]
  rw [if_neg (by simp)]
  have ht1 : IsTup h1 t items := (ht.push _).extBut hs1'.extBut hlt
  have keep1 : ∀ b o, s.heap.get? b = some o → h1.get? b = some o := fun b o e => hs1'.extBut b o (Nat.ne_of_lt (Heap.lt_size e)) (Heap.get?_push_of_some _ e)
  have lt1 : s.heap.objs.size < h1.objs.size := by
    obtain ⟨o, ho, _⟩ := hit1
    exact Heap.lt_size ho
  refine wpAny_bind (wpAny_holding (wpAny_collect_iter (I := s.heap.objs.size) (.inr (.inr (.inr rfl))) (walks_rest (A := A.in1) hh hlt items 1 (by omega)) (fun i s2 st => st.1.typeIs) ⟨hit1, ht1⟩ (fun b hb => ?_) (by simp) (fun s2 acc hm hacc => ?_) (by omega)))
  · rcases List.mem_cons.mp hb with rfl | hb
    · exact lt1
    · rw [List.mem_singleton.mp hb]
      obtain ⟨o, ho, _⟩ := ht1
      exact Heap.lt_size ho
  · rw [rest_items hi hacc]
    rw [if_neg (by simp)]
    obtain ⟨h2, g2, d2, tk2, os2⟩ := s2
    have e1 := hm.gens
    have e2 := hm.drawn
    have e3 := hm.os
    dsimp only at e1 e2 e3
    subst e1 e2 e3
    have keep2 : ∀ b o, s.heap.get? b = some o → h2.get? b = some o := fun b o e => hm.heap b o (fun z => by
      have := Heap.lt_size e
      rw [List.mem_singleton.mp z] at this
      exact absurd this (Nat.lt_irrefl _)) (keep1 b o e)
    have etake : r.take (r.length - (2 - 1 - 1)) = r := by simp
    have edrop : r.drop (r.length - (2 - 1 - 1)) = [] := by simp
    rw [etake, edrop]
    have hrl : r.length ≤ sizeLine := by
      have : items.toList.length = r.length + 1 := by rw [hi]; rfl
      rw [Array.length_toList] at this
      omega
    refine wpAny_bind (wpAny_newList (hsz := hrl) (wpAny_pure ?_))
    rw [List.append_nil]
    exact h h2 tk2 keep2
end
/-- first, *rest = a tuple; the rest is a new list -/
def gStar (K : PySem.W.Frag) (t u : TG) : TG := fun v σ H Q => ∃ a x xs, v = .ref a ∧ SqT K H a (x :: xs) ∧ ∀ q, H q = none → t x σ (upd H q (.lst xs)) fun σ' H' => u (.ref q) σ' H' Q
theorem k_star {X : Cx} {K : PySem.W.Frag} (hK : X.K = K) {e1 e2 : Expr} {p pos : Pos} {k : Nat} {t u : TG} (hc : X.calm = true) (h1 : PG X e1 t) (h2 : PG X e2 u)
    (hn : (assignEach [e1, .Starred e2 p] X.env).length = 2 := by rfl) (hst : (assignEach [e1, .Starred e2 p] X.env).findIdx? (·.1) = some 1 := by rfl)
    (hm : (assignEach [e1, .Starred e2 p] X.env).map (·.2) = [assign e1 X.env, assign e2 X.env] := by rfl) : PG X (.Tuple [e1, .Starred e2 p] k pos) (gStar K t u) := by
  subst hK
  refine ⟨fun pins s σ H v w Q I r hw => ?_⟩
  obtain ⟨a, x, xs, e, hq, hw⟩ := hw
  subst e
  cases r
  obtain ⟨its, rv, ht, hz⟩ := I.tuple hq
  cases rv with
  | @cons _ y _ ys ry rys =>
    have hzs : (y :: ys).toArray.size ≤ sizeLine := by
      rw [List.size_toArray, List.length_cons, ← rys.length]
      exact hz
    refine assign_star (I.ok.hd hc) ht rfl hzs hn hst fun h' tk keep => ?_
    rw [hm]
    have J1 : Inv X pins σ H { s with heap := h', toks := tk } := I.kept (t' := tk) keep
    have hf : H h'.objs.size = none := J1.hok.fresh (Nat.le_refl _)
    have J : Inv X pins σ (upd H h'.objs.size (.lst xs)) { s with heap := h'.push { cls := .type "list", data := .seq ys.toArray }, toks := tk } := by
      refine J1.laid (t' := tk) (fun b o q => Heap.get?_push_of_some _ q) (Nat.le_refl _) ?_
      exact ⟨Nat.le_trans (Nat.le_succ _) hz, ys, 0, rys, Heap.get?_push_size _ rfl⟩
    refine assignInOrder_cons (thn (h1.run pins _ σ _ x y _ J ry (hw _ hf)) fun _ s1 z => ?_)
    obtain ⟨σ1, H1, I1, q1⟩ := z
    exact assignInOrder_cons (thn (h2.run pins s1 σ1 H1 (.ref h'.objs.size) (.ref h'.objs.size) _ I1 rfl q1) fun _ s2 z => assignInOrder_nil z)
def gStarM (g u : MG) : MG := fun d δ μ => match d with
  | .tup (x :: r) => (g x δ μ).bind fun δ' => u (.lst r) δ' μ
  | _ => none
theorem gv_star {K : PySem.W.Frag} {t v : TG} {g u : MG} (h1 : GV t g) (h2 : GV v u) : GV (gStar K t v) (gStarM g u) := fun ω μ H x a σ δ δ' Q w r e h q => by
  unfold gStarM at h
  split at h
  · rename_i d ds
    obtain ⟨δ1, e1, e2⟩ := Option.bind_eq_some_iff.mp h
    cases r with
    | tup hb rr =>
      cases rr with
      | cons ra rs =>
        refine ⟨_, _, _, rfl, .inl (.inl (w.x _ _ hb)), fun p hp => ?_⟩
        obtain ⟨l2, w2⟩ := w.newB (u := .lst _) hp
        refine h1 _ μ _ _ _ σ δ δ1 _ w2 (ra.mono l2) (e.mono l2) e1 fun σ1 ω1 H1 l3 w3 e3 => ?_
        exact h2 ω1 μ H1 _ _ σ1 δ1 δ' Q w3 (.lst (l3.b _ _ upd_same) ((rs.mono l2).mono l3)) e3 e2 fun σ4 ω4 H4 l4 w4 e4 => q σ4 ω4 H4 (l2.trans (l3.trans l4)) w4 e4
  · cases h
end DM

set_option linter.all false
set_option maxRecDepth 100000
set_option maxHeartbeats 4000000
/-! DMD: except (A, B, ..) as e. -/
namespace DM
open PySem PySem.Spec PyProof.Rows L2
section
variable {M : Model} {A : Around} {E : Value → Shared → Prop} {s : Shared}
theorem forIn_pass {α : Type} {f : α → PUnit → Sem (ForInStep PUnit)} {Q : PUnit → Shared → Prop} (q : Q ⟨⟩ s) : ∀ {cs : List α}, (∀ c ∈ cs, ∀ {Q : ForInStep PUnit → Shared → Prop}, Q (.yield ⟨⟩) s → wpAny M A (f c ⟨⟩) Q E s) → wpAny M A (forIn cs ⟨⟩ f) Q E s
  | [], _ => by
    rw [List.forIn_nil]
    exact wpAny_pure q
  | c :: cs, h => by
    rw [List.forIn_cons]
    exact wpAny_bind (h c List.mem_cons_self (forIn_pass q fun c hc => h c (List.mem_cons_of_mem _ hc)))
theorem forIn_first {α β : Type} {f : α → β → Sem (ForInStep β)} {d0 d1 : β} {m : α → Bool} {Q : β → Shared → Prop} : ∀ {cs : List α}, (∀ c ∈ cs, ∀ {Q : ForInStep β → Shared → Prop}, Q (if m c then .done d1 else .yield d0) s → wpAny M A (f c d0) Q E s) → Q (if cs.any m then d1 else d0) s → wpAny M A (forIn cs d0 f) Q E s
  | [], _, q => by
    rw [List.forIn_nil]
    exact wpAny_pure q
  | c :: cs, h, q => by
    rw [List.forIn_cons]
    refine wpAny_bind (h c List.mem_cons_self ?_)
    rw [List.any_cons] at q
    cases e : m c with
    | true =>
      rw [e] at q
      exact wpAny_pure q
    | false =>
      rw [e] at q
      exact forIn_first (fun c hc => h c (List.mem_cons_of_mem _ hc)) q
end
theorem exmAny_all {K : PySem.W.Frag} {cls : Value} : ∀ {cs : List Value} {b : Bool}, PySem.W.exmAny K cls cs = some b → (∀ c ∈ cs, ∃ b1, PySem.W.exmOne K cls c = some b1) ∧ b = cs.any fun c => PySem.W.exmOne K cls c == some true
  | [], b, h => by
    cases h
    exact ⟨fun c hc => (nomatch hc), rfl⟩
  | c :: cs, b, h => by
    obtain ⟨b1, d1, h1, h2, rfl⟩ := PySem.W.exmAny_cons h
    obtain ⟨r1, rfl⟩ := exmAny_all h2
    refine ⟨fun x hx => ?_, ?_⟩
    · rcases List.mem_cons.mp hx with rfl | hx
      · exact ⟨b1, h1⟩
      · exact r1 x hx
    · rw [List.any_cons, h1]
      cases b1 <;> rfl
theorem exm_tupL {M : Model} {K : PySem.W.Frag} {cs : List Value} {cls : Value} {tp e : Addr} {b : Bool} {h : Heap} (X : K.In h) (LT : PySem.W.Looks M h (typeOf (.ref e)) cls) (hp : h.get? tp = some { cls := .type "tuple", data := .seq cs.toArray }) (hx : PySem.W.exmAny K cls cs = some b) :
    PySem.W.Looks M h (excMatches (.ref e) (.ref tp)) b := by
  intro A Q E s k₀ q
  obtain ⟨hh, g, d, tk, os⟩ := s
  have k : ∀ b o, h.get? b = some o → hh.get? b = some o := k₀
  have L0 : PySem.W.Looks M h (isInstance (.ref tp) (.type "tuple")) true := ((PySem.W.Looks.ld hp).andThen .now).andThen (PySem.W.Looks.of_pure isSubtype_tuple_tuple)
  obtain ⟨all, rfl⟩ := exmAny_all hx
  have hp' := k _ _ hp
  unfold excMatches
  refine wpAny_bind ((L0.keeps k).at ?_)
  dsimp only
  rw [if_pos rfl]
  first
    | refine wpAny_bind (wpAny_seqItems hp' rfl ?_)
    | refine wpAny_bind (wpAny_bind (wpAny_seqItems hp' rfl (wpAny_pure ?_)))
  dsimp only [Option.getD_some, Option.getD]
  refine wpAny_bind (wpAny_pure (wpAny_bind (forIn_pass ?_ fun c hc => ?_)))
  · refine wpAny_bind ((LT.keeps k).at ?_)
    refine wpAny_bind (forIn_first (d1 := (some true, ())) (m := fun c => PySem.W.exmOne K cls c == some true) (fun c hc => ?_) ?_)
    · intro Q q
      obtain ⟨b1, h1⟩ := all c hc
      obtain ⟨_, S1⟩ := PySem.W.exm_cls (M := M) X h1
      refine wpAny_bind ((S1.keeps k).at ?_)
      rw [h1] at q
      cases b1 <;> exact wpAny_pure q
    · generalize (cs.any fun c => PySem.W.exmOne K cls c == some true) = b at q ⊢
      cases b <;> exact wpAny_pure q
  · intro Q q
    obtain ⟨b1, h1⟩ := all c hc
    obtain ⟨e1, _⟩ := PySem.W.exm_cls (M := M) X h1
    refine wpAny_bind ((e1.keeps k).at ?_)
    exact wpAny_pure q
theorem flying_push {B : Heap} {l : List PySem.Env} {e : Addr} {Z : Obj → Prop} {h : Heap} {o : Obj} (x : HandSPX.FlyingZ B l e Z h) : HandSPX.FlyingZ B l e Z (h.push o) := by
  obtain ⟨k, n, f, oe, vs, T, oT, ts, h1, h2, h3, h4, h5, h6, h7, h8, h9⟩ := x
  exact ⟨fun b u q => Heap.get?_push_of_some _ (k b u q), n, Heap.FunFrames.of_keeps (fun b u q _ => ⟨u, Heap.get?_push_of_some _ q, rfl⟩) f, oe, vs, T, oT, ts, Heap.get?_push_of_some _ h1, h2, h3, h4, h5, h6, Heap.get?_push_of_some _ h7, h8, h9⟩
/-- a name in an except's tuple -/
def nmE (x : Str × Pos) : Expr := .Name x.1 x.2
def NamesL (X : Cx) : List (Str × Pos) → List Value → Prop
  | [], [] => True
  | x :: xs, c :: cs => Names X x.1 c ∧ NamesL X xs cs
  | _, _ => False
theorem NamesL.nil {X : Cx} : NamesL X [] [] := trivial
theorem NamesL.cons {X : Cx} {x : Str} {p : Pos} {xs : List (Str × Pos)} {c : Value} {cs : List Value} (h : Names X x c) (t : NamesL X xs cs) : NamesL X ((x, p) :: xs) (c :: cs) := ⟨h, t⟩
theorem names_read {X : Cx} {M : Model} {A : Around} {E : Value → Shared → Prop} {s : Shared} {env : PySem.Env} {pos : Pos} (rd : ∀ x np c, Names X x c → ∀ {Q : Value → Shared → Prop} {E : Value → Shared → Prop}, Q c s → wpAny M A (eval (.Name x np) env) Q E s) :
    ∀ {xs : List (Str × Pos)} {cs : List Value} {Q : List Value → Shared → Prop}, NamesL X xs cs → Q cs s → wpAny M A (spliced (backTo pos (starEach (xs.map nmE) env))) Q E s
  | [], [], Q, _, q => spliced_none q
  | x :: xs, c :: cs, Q, h, q => by
    refine spliced_more ?_ (by rfl)
    exact rd x.1 x.2 c h.1 (names_read rd h.2 q)
  | [], _ :: _, _, h, _ => h.elim
  | _ :: _, [], _, h, _ => h.elim
/-- what the clause 'except (x, ..) as n' wishes: the error at a is tracked; slot i is n's -/
def wKeepL (K : PySem.W.Frag) (cs : List Value) (i : Nat) (ts : TS) (Wout : WX) (D : Ends) : WX := fun cls d σ H =>
  ∃ b, PySem.W.exmAny K cls cs = some b ∧ (b = true → ∀ a, H a = none → ts { nx := fun σ' H' => D.nx (σ'.set i none) H', rt := D.rt, bk := fun σ' H' => D.bk (σ'.set i none) H', ct := fun σ' H' => D.ct (σ'.set i none) H' } (σ.set i (some (.ref a))) (upd H a (exK cls d a))) ∧
    (b = false → Wout cls d σ H)
section
variable {X : Cx} {xs : List (Str × Pos)} {n : Str} {cs : List Value} {i tk0 : Nat} {body suite : List Stmt} {b₀ : Stmt} {tp0 pos pos' : Pos} {tb : WX → TS} {ts : TS} {Wout : WX}
theorem ps_try_keepL (hs : X.stack = X.env :: X.outer) (hf : X.env.frame = some X.env.locals) (hex : X.ex = []) (hN : X.N.Nodup) (hi : X.N[i]? = some n) (hln : X.env.kindOf n = some .local) (hc : NamesL X xs cs) (hlen : cs.length ≤ 1000) (tk : Takes X Wout)
    (hb : ∀ (W : WX) (pn : List (Addr × Obj)) (xe : Value → Shared → Prop), Takes (X.tr pn xe) W → PassesOwn (model X.prog X.w) X.A X.env xe → PSs (X.tr pn xe) body (tb W))
    (hsu : ∀ a : Addr, PSs (supX X a) (b₀ :: suite) ts) :
    PS X (.Try body [.ExceptHandler (some (.Tuple (xs.map nmE) tk0 tp0)) (some n) (b₀ :: suite) pos'] [] [] pos) (fun D σ H => tb (wKeepL X.K cs i ts Wout D) D σ H) := by
  refine ⟨fun pins s σ H D I h => ?_⟩
  have ok := I.ok
  have hfr : X.A.frames = some (X.env :: X.outer) := by rw [ok.frames, hs]
  have hloc : Loc X.env.scope n := .inl hln
  refine wpAny_Try_except ?_
  refine wpAny_mono ((hb (wKeepL X.K cs i ts Wout D) (X.pn ++ pins) (fun e s₁ => wpAny (model X.prog X.w) X.A (noteFrame e X.env) (fun _ s₂ => wpAny (model X.prog X.w) X.A (setFlight e none) (fun _ s₃ =>
    wpAny (model X.prog X.w) X.A (handleBy e X.env [.ExceptHandler (some (.Tuple (xs.map nmE) tk0 tp0)) (some n) (b₀ :: suite) pos']) (SP X pins D) X.xe s₃) X.xe s₂) X.xe s₁) (fun u s' xx => ?_) PassesOwn.looking).run [] s σ H D (I.toTry _) h) (fun f s1 hsp => ?_) (fun e s1 he => he)
  · obtain ⟨a, B, sI, pins', σ', H', cls, d, rfl, J', nb, up, sky, na, os, ag, b, hb1, hyes, hno⟩ := xx
    have J : Inv X pins σ' H' sI := J'.ofTry ok
    have sky' : Sky B (X.env :: X.outer) a (Zc cls d) X.env.locals s'.heap := by rw [← hs]; exact sky
    show wpAny (model X.prog X.w) X.A (noteFrame (.ref a) X.env) _ _ _
    refine Sky.land Zc.steady hfr hf sky' fun h3 fl3 up3 => ?_
    have J3 : Inv X pins σ' H' { s' with heap := h3 } := J.landed nb fl3.1 (up.trans up3) os ag
    obtain ⟨oe3, vs3, he3, hz3, hd3⟩ := fl3.there
    have notFr : ∀ {h : Heap} {o : Obj} {vs : Array Value}, h.FunFrames B (X.env :: X.outer) → h.get? a = some o → o.data = .fields vs → a ∉ frs (X.env :: X.outer) := fun {h o vs} ff e dd hm => by
      obtain ⟨_, o', e', hnf⟩ := ff.mem hm
      rw [e] at e'; cases e'
      exact hnf _ dd
    have nfr := notFr fl3.2.2.1 he3 hd3
    have nL : a ≠ X.env.locals := fun z => nfr (List.mem_filterMap.mpr ⟨X.env, List.mem_cons_self, by rw [hf, z]⟩)
    have nF : a ∉ X.fs := fun hm => by
      obtain ⟨e, he, q⟩ := List.mem_filterMap.mp hm
      exact nfr (List.mem_filterMap.mpr ⟨e, List.mem_cons_of_mem _ he, q⟩)
    have S3 := J3.suite he3 hd3 na nL nF
    refine wpAny_handleBy_cons (codeAny_handlers_test ?_) (by intro q; cases q)
    have rd : ∀ x np c, Names X x c → ∀ {Q : Value → Shared → Prop} {E : Value → Shared → Prop}, Q c { s' with heap := h3 } → wpAny (model X.prog X.w) (X.A.mark (some (.ref a))) (eval (.Name x np) X.env) Q E { s' with heap := h3 } := fun x np c hc {Q E} q => by
      obtain ⟨hg, hdbg, hm | ⟨hm, hv, hnn⟩⟩ := hc
      · exact ld_glob (X := X.suite a ((a, oe3) :: (X.pn ++ pins))) S3 hg hm q hdbg
      · exact ld_blt (X := X.suite a ((a, oe3) :: (X.pn ++ pins))) S3 hg hm hv q hnn hdbg
    refine Tuple_ (names_read rd hc ?_)
    refine wpAny_newObj_type ?_ (show cs.toArray.size ≤ sizeLine from by rw [List.size_toArray, sizeLine_eq]; omega)
    have fl5 := flying_push (o := { cls := .type "tuple", dict := none, data := .seq cs.toArray }) fl3
    have up5 := up3.trans (Heap.UpToSlots.of_keeps fun b o e => Heap.get?_push_of_some { cls := .type "tuple", dict := none, data := .seq cs.toArray } e)
    have J5 := J.landed (s' := { s' with heap := h3.push { cls := .type "tuple", dict := none, data := .seq cs.toArray } }) nb fl5.1 (up.trans up5) os ag
    have tpl : (h3.push { cls := .type "tuple", dict := none, data := .seq cs.toArray }).get? h3.objs.size = some { cls := .type "tuple", dict := none, data := .seq cs.toArray } := by heap_get
    have he5 := Heap.get?_push_of_some { cls := .type "tuple", dict := none, data := .seq cs.toArray } he3
    have LT : PySem.W.Looks (model X.prog X.w) (h3.push { cls := .type "tuple", dict := none, data := .seq cs.toArray }) (typeOf (.ref a)) cls := fun A Q E s k q => wpAny_typeOf_ref (k _ _ he5) (by rw [hz3.1]; exact q)
    have LM := exm_tupL (M := model X.prog X.w) (J5.kIn) LT tpl hb1
    refine LM.here ?_
    clear LM LT
    cases b with
    | true =>
      refine codeAny_handlers_suite_as ?_
      refine HandSPX.lands_againZ fl5 fun h4 fl4 up4 => ?_
      have J4 : Inv X pins σ' H' { s' with heap := h4 } := J.landed nb fl4.1 ((up.trans up5).trans up4) os ag
      obtain ⟨oe4, vs4, he4, hz4, hd4⟩ := fl4.there
      have S4 : Inv (supX X a) pins σ' (upd H' a (exK cls d a)) { s' with heap := h4 } := caught_track hex J J4 nb fl4.2.1 (by rw [hs]; exact nfr) nL na he4 hz4 hd4
      refine store_ok (X := supX X a) (v := .ref a) S4 hN hi hloc rfl (fun s5 S5 => ?_) (.inr hln)
      refine wpAny_mono ((hsu a).run pins s5 _ _ _ S5 (hyes rfl a na)) (fun f s6 hsp => ?_) (fun _ _ z => False.elim z)
      have end_ : ∀ {σ6 : L2.St} {H6 : Hp} {Q : Shared → Prop}, Inv (supX X a) pins σ6 H6 s6 → (∀ s7, Inv X pins (σ6.set i none) H6 s7 → Q s7) →
          wpAny (model X.prog X.w) X.A (do bindName X.env n .none; unbindBehindTheSuite X.env n pos') (fun _ s7 => Q s7) X.xe s6 := fun {σ6 H6 Q} S6 hq => gone_ok (Inv.ofSup S6 ok) hN hi hln hq
      cases f with
      | next =>
        obtain ⟨σ6, H6, S6, q6⟩ := hsp
        exact end_ S6 fun s7 J7 => ⟨_, _, J7, q6⟩
      | brk =>
        obtain ⟨σ6, H6, S6, q6⟩ := hsp
        exact end_ S6 fun s7 J7 => ⟨_, _, J7, q6⟩
      | cont =>
        obtain ⟨σ6, H6, S6, q6⟩ := hsp
        exact end_ S6 fun s7 J7 => ⟨_, _, J7, q6⟩
      | ret u =>
        obtain ⟨v6, σ6, H6, S6, r6, q6⟩ := hsp
        exact end_ S6 fun s7 J7 => ⟨_, _, _, J7, r6, q6⟩
    | false =>
      show wpAny _ X.A (handleBy (.ref a) X.env []) _ _ _
      refine wpAny_handleBy_nil ?_
      obtain ⟨k1, k2, k3, oe, vs, T, oT, ts', he, hz, hd, h1, hr⟩ := id fl5
      unfold PySem.passOn
      refine wpAny_bind (wpAny_field he hd h1 ?_)
      rw [if_neg (show ¬ ((Value.ref T == Value.none) = true) from by simp)]
      have fin : wpAny (model X.prog X.w) X.A (setFlight (.ref a) X.env.frame) (fun _ s4 => wpAny (model X.prog X.w) X.A (throw (.ref a) : Sem Flow) (SP X pins D) X.xe s4) X.xe { s' with heap := h3.push { cls := .type "tuple", dict := none, data := .seq cs.toArray } } := by
        rw [hf]
        refine HandSPX.setFlight_upZ fl5 fun h4 hh4 up4 => wpAny_throw (tk _ _ ?_)
        exact ⟨a, B, sI, pins, σ', H', cls, d, rfl, J, nb, (up.trans up5).trans up4, .inr (.inr (by rw [hs]; exact hh4)), na, os, ag, hno rfl⟩
      first
        | exact wpAny_bind (wpAny_pure (wpAny_bind fin))
        | exact wpAny_bind fin
  · cases f with
    | next =>
      obtain ⟨σ', H', J', q⟩ := hsp
      exact wpAny_execs_nil ⟨σ', H', J'.ofTry ok, q⟩
    | brk =>
      obtain ⟨σ', H', J', q⟩ := hsp
      exact ⟨σ', H', J'.ofTry ok, q⟩
    | cont =>
      obtain ⟨σ', H', J', q⟩ := hsp
      exact ⟨σ', H', J'.ofTry ok, q⟩
    | ret u =>
      obtain ⟨v, σ', H', J', r, q⟩ := hsp
      exact ⟨v, σ', H', J'.ofTry ok, r, q⟩
end
section
variable {Γ : Gm} {W : WX} {K : PySem.W.Frag}
theorem sv_tryL {cvs : List Value} {cq : Nat → Option Bool} {i : Nat} {tb : WX → TS} {ts : TS} {b s : MS} (hq : ∀ n k, cq n = some k → PySem.W.exmAny K (.ref (Γ.c n)) cvs = some k) (hb : ∀ W, SV Γ W (tb W) b) (hs : SV Γ W0 ts s) :
    SV Γ W (fun D σ H => tb (wKeepL K cvs i ts W D) D σ H) (sTry cq i b s) := fun D σ H ⟨ω, δ, μ, hg, he, hw, h⟩ => hb _ D σ H ⟨ω, δ, μ, hg, he, hw, by
  unfold sTry at h
  cases eb : b δ μ with
  | nx δ' μ' => rw [eb] at h; exact h
  | rt d μ' => rw [eb] at h; exact h
  | bk δ' μ' => rw [eb] at h; exact h
  | ct δ' μ' => rw [eb] at h; exact h
  | no => rw [eb] at h; exact h
  | ex n ns es δ' μ' =>
    rw [eb] at h
    intro dd σ' ω' H' l w e x
    cases ec : cq n with
    | none =>
      simp only [ec] at h
      exact h.elim
    | some k =>
      simp only [ec] at h
      refine ⟨k, by rw [hg]; exact hq n k ec, fun hk a na => ?_, fun hk => ?_⟩
      · subst hk
        obtain ⟨l2, w2⟩ := w.newB (u := exK (.ref (ω.Γ.c n)) dd a) na
        have r2 : Rp { ω' with B := upd ω'.B a (exK (.ref (ω.Γ.c n)) dd a) } (.ref a) (.exc n ns es) := (x.mono l2).rp (by rw [show ({ ω' with B := upd ω'.B a (exK (.ref (ω.Γ.c n)) dd a) } : Wd).Γ = ω.Γ from l.g]; exact upd_same)
        refine hs _ _ _ ⟨_, _, _, (l.trans l2).g.trans hg, (e.mono l2).set i r2, w2, ?_⟩
        have h : GoS W ω (match s (δ'.set i (some (.exc n ns es))) μ' with
          | .nx δ2 μ2 => .nx (δ2.set i none) μ2
          | .bk δ2 μ2 => .bk (δ2.set i none) μ2
          | .ct δ2 μ2 => .ct (δ2.set i none) μ2
          | .rt d μ2 => .rt d μ2
          | _ => .no) D := h
        have h := GoS.mono h (l.trans l2)
        revert h
        cases s (δ'.set i (some (.exc n ns es))) μ' with
        | nx δ2 μ2 => exact fun h σ3 ω3 H3 l3 w3 e3 => h _ ω3 H3 l3 w3 (e3.unset i)
        | bk δ2 μ2 => exact fun h σ3 ω3 H3 l3 w3 e3 => h _ ω3 H3 l3 w3 (e3.unset i)
        | ct δ2 μ2 => exact fun h σ3 ω3 H3 l3 w3 e3 => h _ ω3 H3 l3 w3 (e3.unset i)
        | rt d μ2 => exact fun h => h
        | ex n ns es δ2 μ2 => exact fun h => h.elim
        | no => exact fun h => h.elim
      · subst hk
        exact h dd σ' ω' H' l w e x⟩
end
def cqL (ks : List Nat) : Nat → Option Bool := fun n => if ks.contains n then some true else none
theorem exmAny_in {K : PySem.W.Frag} {Γ : Gm} {n : Nat} : ∀ {ks : List Nat}, (∀ k ∈ ks, PySem.W.exmOne K (.ref (Γ.c n)) (.ref (Γ.c k)) = some (n == k)) → PySem.W.exmAny K (.ref (Γ.c n)) (ks.map fun k => .ref (Γ.c k)) = some (ks.contains n)
  | [], _ => rfl
  | k :: ks, h => by
    show (match PySem.W.exmOne K (.ref (Γ.c n)) (.ref (Γ.c k)), PySem.W.exmAny K (.ref (Γ.c n)) (ks.map fun k => .ref (Γ.c k)) with | some b, some d => some (b || d) | _, _ => none) = _
    rw [h k List.mem_cons_self, exmAny_in fun k hk => h k (List.mem_cons_of_mem _ hk), List.contains_cons]
theorem cqL_ok {K : PySem.W.Frag} {Γ : Gm} {ks : List Nat} {cs : List Value} (hc : cs = ks.map fun k => .ref (Γ.c k)) (h : ∀ n ∈ ks, ∀ k ∈ ks, PySem.W.exmOne K (.ref (Γ.c n)) (.ref (Γ.c k)) = some (n == k)) : ∀ n b, cqL ks n = some b → PySem.W.exmAny K (.ref (Γ.c n)) cs = some b := fun n b e => by
  unfold cqL at e
  split at e
  · rename_i hn
    cases e
    rw [hc, exmAny_in (h n (List.contains_iff_mem.mp hn)), hn]
  · cases e
end DM

set_option linter.all false
set_option maxRecDepth 100000
set_option maxHeartbeats 4000000
/-! DME: raise C(..) where C has an __init__ of its own that keeps its parameters; C beneath one of Python's errors. -/
namespace DM
open PySem PySem.Spec PyProof.Rows L2
open Classical
/-! ### the base -/
structure Bs where
  B : String
  nw : String
  ini : String
  tl : List Value
structure BasF (b : Bs) : Prop where
  f : ExcBaseFacts b.B b.nw b.ini b.tl
  s : StoreFacts b.B b.tl "object.__setattr__" "object"
  t : NwS.TyAt b.B "__init__" b.ini
  v : bootBuiltins b.B = some (.type b.B)
  n : (b.B : Str) ≠ "__name__"
  d : ((b.B : Str) == ("__debug__" : Str)) = false

abbrev bsV : Bs := ⟨"ValueError", "ValueError.__new__", "ValueError.__init__", [.type "ValueError", .type "Exception", .type "BaseException", .type "object"]⟩
abbrev bsL : Bs := ⟨"LookupError", "LookupError.__new__", "LookupError.__init__", [.type "LookupError", .type "Exception", .type "BaseException", .type "object"]⟩
abbrev bsA : Bs := ⟨"ArithmeticError", "ArithmeticError.__new__", "ArithmeticError.__init__", [.type "ArithmeticError", .type "Exception", .type "BaseException", .type "object"]⟩
theorem basV : BasF bsV := ⟨PySem.F.excBase_ValueError, PySem.F.store_ValueError, ⟨by decide +kernel, by first | rfl | kernel_rfl, fun K => by kernel_rfl, by decide +kernel⟩, PyProof.Rows.Boot.«ValueError», by decide +kernel, by decide +kernel⟩
theorem basL : BasF bsL := ⟨PySem.F.excBase_LookupError, PySem.F.store_LookupError, ⟨by decide +kernel, by first | rfl | kernel_rfl, fun K => by kernel_rfl, by decide +kernel⟩, PyProof.Rows.Boot.«LookupError», by decide +kernel, by decide +kernel⟩
theorem basA : BasF bsA := ⟨PySem.F.excBase_ArithmeticError, PySem.F.store_ArithmeticError, ⟨by decide +kernel, by first | rfl | kernel_rfl, fun K => by kernel_rfl, by decide +kernel⟩, PyProof.Rows.Boot.«ArithmeticError», by decide +kernel, by decide +kernel⟩
/-- what the written part says of such a class -/
structure OxB (K : PySem.W.Frag) (C : Addr) (b : Bs) : Prop where
  bf : BasF b
  q : PySem.W.excInitIn K C b.tl b.nw = true
  ov : PySem.W.excOver K C b.tl = true
  hd : PySem.W.hasDictIn K C = true
  sa : PySem.W.findIn K (.ref C) "__setattr__" = some (some (.builtin "object.__setattr__"))
  exC : PySem.W.subIn K (.ref C) (.type "BaseException") = some true
  tyC : PySem.W.typeIn K (.ref C) = some (.type "type")
  kC : PySem.W.keepIn K (.ref C) = true
theorem upd_id {H : Hp} {a : Addr} {o : HO} (e : H a = some o) : upd H a o = H := funext fun c => by
  by_cases hc : c = a
  · rw [hc, upd_same, e]
  · rw [upd_ne hc]
theorem upd_twice {H : Hp} {a : Addr} {o u : HO} : upd (upd H a o) a u = upd H a u := funext fun c => by
  by_cases hc : c = a
  · rw [hc, upd_same, upd_same]
  · rw [upd_ne hc, upd_ne hc, upd_ne hc]
theorem upd_swap {H : Hp} {a d : Addr} {o u : HO} (n : d ≠ a) : upd (upd H a o) d u = upd (upd H d u) a o := funext fun c => by
  by_cases hc : c = a
  · subst hc
    rw [upd_ne n.symm, upd_same, upd_same]
  · by_cases hd : c = d
    · subst hd
      rw [upd_same, upd_ne hc, upd_same]
    · rw [upd_ne hd, upd_ne hc, upd_ne hc, upd_ne hd]
section
variable {X : Cx} {pins : List (Addr × Obj)} {σ : L2.St} {H : Hp} {s : Shared} {a C dx : Addr} {f : Str} {y : V} {u : Value} {fs : List (Str × V)} {A : Around} {b : Bs}
theorem taker_none {K : PySem.W.Frag} (hno : PySem.W.findIn K (.ref C) f = some none) : PySem.W.takerIn K C f = some none := by
  unfold PySem.W.takerIn
  rw [hno]
  rfl
/-- self.f = y, the first one -/
theorem sto_first {Q : Unit → Shared → Prop} {E : Value → Shared → Prop} (T : OxB X.K C b) (I : Inv X pins σ H s) (e : H a = some (exo a C none)) (hno : PySem.W.findIn X.K (.ref C) f = some none) (ry : RelV y u)
    (h : ∀ dx s', H dx = none → dx ≠ a → Inv X pins σ (upd (upd H dx (exd dx [(f, y)])) a (exo a C (some dx))) s' → Q () s') : wpAny (model X.prog X.w) A (setAttr (.ref a) f u) Q E s := by
  obtain ⟨t1, ho⟩ := exo_at I.hok e
  obtain ⟨cd, hc, hdct⟩ := PySem.W.any_some T.hd
  obtain ⟨hp, g, d, t, os⟩ := s
  have lt : a < hp.objs.size := Heap.lt_size ho
  have na : hp.objs.size ≠ a := Nat.ne_of_gt lt
  have nH : H hp.objs.size = none := I.hok.fresh (Nat.le_refl _)
  refine PySem.W.set_plain (od := none) I.kIn ⟨ho, rfl, rfl, trivial⟩ T.sa ?_
  refine PySem.W.osa_openX (od := none) T.bf.s I.kIn ⟨ho, rfl, rfl, trivial⟩ T.ov (taker_none hno) fun bb => ?_
  have LC : PySem.W.Looks (model X.prog X.w) hp (classData C) cd := PySem.W.looks_clsIn I.kIn hc
  refine wpAny_bind (wpAny_pure (wpAny_bind ?_))
  refine PySem.W.instanceDict_exc (c2 := .none) ho LC hdct ?_
  have e0 : (hp.push (PySem.W.dictOf [] 0)).get? hp.objs.size = some (PySem.W.dictOf [] 0) := Heap.get?_push_size hp rfl
  have en0 : (hp.push (PySem.W.dictOf [] 0)).Ns hp.objs.size (fun _ => none) := ⟨_, #[], _, e0, rfl, fun e he => absurd he (by simp), fun _ => rfl⟩
  have en := Heap.Ns1.of_empty en0
  have I1 : Inv X pins σ (upd H hp.objs.size (exd hp.objs.size [])) ⟨hp.push (PySem.W.dictOf [] 0), g, d, t, os⟩ := I.laid (t' := t) (fun c o q => Heap.get?_push_of_some _ q) (Nat.le_refl _) (exd_ok en fun _ => True.intro)
  have ho1 := Heap.get?_push_of_some (PySem.W.dictOf [] 0) ho
  have e2 : ((hp.push (PySem.W.dictOf [] 0)).update a fun o => { o with dict := some hp.objs.size }).get? a = some { cls := .ref C, dict := some hp.objs.size, data := .fields #[.ref t1, .none, .none, .none, .bool false, .none] } := Heap.get?_update_self _ ho1 rfl
  have I2 := I1.write (t' := t) (x := a) (e := a) (o := exo a C (some hp.objs.size)) (by rw [upd_ne (Ne.symm na), e]; exact True.intro) (.inl rfl) (fun c o hc q => (Heap.get?_update_other _ _ (Ne.symm hc)).trans q) ⟨_, e2⟩ (exo_ok e2)
  have e3 : ((hp.push (PySem.W.dictOf [] 0)).update a fun o => { o with dict := some hp.objs.size }).Ns1 hp.objs.size (fun _ => none) := en.at fun o q => (Heap.get?_update_other _ _ (Ne.symm na)).trans q
  show wpAny _ _ (Builtin.ObjectAttr.storeInDict hp.objs.size (.str f t) f u) _ _ _
  refine PySem.OEX.store_in_old (ns := []) e3 (fun c z => absurd rfl z) (Nat.zero_le _) fun h' tk' hn' hs => ?_
  have I3 := I2.write (t' := tk') (x := hp.objs.size) (e := hp.objs.size) (o := exd hp.objs.size [(f, y)]) (by rw [upd_ne na, upd_same]; exact True.intro) (.inl rfl) (fun c o hc q => (hs.2 c hc).trans q) (let ⟨o, _, _, q, _⟩ := hn'; ⟨o, q⟩) (exd_ok hn' (relO_put (fs := []) ry fun _ => True.intro))
  rw [upd_swap na, upd_twice] at I3
  exact h _ _ nH na I3
/-- self.f = y, a further one -/
theorem sto_next {Q : Unit → Shared → Prop} {E : Value → Shared → Prop} (T : OxB X.K C b) (I : Inv X pins σ H s) (e : H a = some (exo a C (some dx))) (ed : H dx = some (exd dx fs)) (hl : fs.length ≤ 900) (hno : PySem.W.findIn X.K (.ref C) f = some none) (ry : RelV y u)
    (h : ∀ s', Inv X pins σ (upd H dx (exd dx ((f, y) :: fs))) s' → Q () s') : wpAny (model X.prog X.w) A (setAttr (.ref a) f u) Q E s := by
  obtain ⟨t1, ho⟩ := exo_at I.hok e
  obtain ⟨mA, hns, rel⟩ := exd_at I.hok ed
  obtain ⟨cd, hc, hdct⟩ := PySem.W.any_some T.hd
  obtain ⟨hp, g, d, t, os⟩ := s
  have hw := within_of rel
  obtain ⟨oD, _, _, hoD, _, _⟩ := hns.count hw
  refine PySem.W.set_plain (od := some oD) I.kIn ⟨ho, rfl, rfl, hoD⟩ T.sa ?_
  refine PySem.W.osa_openX (od := some oD) T.bf.s I.kIn ⟨ho, rfl, rfl, hoD⟩ T.ov (taker_none hno) fun bb => ?_
  have LC : PySem.W.Looks (model X.prog X.w) hp (classData C) cd := PySem.W.looks_clsIn I.kIn hc
  refine wpAny_bind (wpAny_pure (wpAny_bind (wpAny_bind (wpAny_loadPart ho (wpAny_bind (LC.at ?_))))))
  rw [hdct]
  refine wpAny_pure (a := some dx) ?_
  refine PySem.OEX.store_in_old hns hw (by rw [List.length_map]; omega) fun h' tk' hn' hs => ?_
  exact h _ (I.write (t' := tk') (x := dx) (e := dx) (o := exd dx ((f, y) :: fs)) (by rw [ed]; exact True.intro) (.inl rfl) (fun c o hc q => (hs.2 c hc).trans q) (let ⟨o, _, _, q, _⟩ := hn'; ⟨o, q⟩) (exd_ok hn' (relO_put ry rel)))
end
/-- Base.__init__(self, ..): nothing of it is told -/
def rXi (K : PySem.W.Frag) (b : Bs) : List V → Hp → VK → Prop := fun vs H Q => ∃ (a C : Addr) (ws : List V), vs = .ref a :: ws ∧ ws.length ≤ 1000 ∧ OxB K C b ∧ H a = some (exo a C none) ∧ Q .non H
theorem call_xi {X : Cx} {b : Bs} : CallR X (.builtin b.ini) (rXi X.K b) := by
  intro pins s σ H xs us Q I r hr
  obtain ⟨a, C, ws, ev, hl, T, ea, q⟩ := hr
  subst ev
  obtain ⟨u0, ur, rfl, ra, rr⟩ : ∃ u0 ur, us = u0 :: ur ∧ RelV (.ref a) u0 ∧ Vals ws ur := by
    cases r with
    | cons p t => exact ⟨_, _, rfl, p, t⟩
  obtain rfl : u0 = Value.ref a := ra
  have hz : ur.length ≤ sizeLine := by
    rw [← Paired.length rr, sizeLine_eq]
    omega
  obtain ⟨_, _, _, _, _, _, _, _, _, _, _, _, _, _, _, _, hC, hT⟩ := PySem.W.excInit_of I.kIn T.q
  obtain ⟨t1, ho⟩ := exo_at I.hok ea
  obtain ⟨hp, g, d, t, os⟩ := s
  refine wpAny_call (PySem.HandSPX.init_base T.bf.f hT hC ho hz fun h' t2 k hx => ?_)
  have J := I.write (t' := t) (x := a) (e := a) (o := exo a C none) (by rw [ea]; exact True.intro) (.inl rfl) k ⟨_, hx⟩ (exo_ok hx)
  rw [upd_id ea] at J
  exact ⟨.non, H, J, rfl, q⟩
/-- self.f = e -/
def tOxs (K : PySem.W.Frag) (b : Bs) (f : Str) (to te : TE) : TS := fun D σ H => te σ H fun y H1 => to σ H1 fun x H2 => ∃ a C : Addr, x = .ref a ∧ OxB K C b ∧ PySem.W.findIn K (.ref C) f = some none ∧
  ((H2 a = some (exo a C none) ∧ ∀ dx, H2 dx = none → dx ≠ a → D.nx σ (upd (upd H2 dx (exd dx [(f, y)])) a (exo a C (some dx)))) ∨
    ∃ (dx : Addr) (fs : List (Str × V)), H2 a = some (exo a C (some dx)) ∧ H2 dx = some (exd dx fs) ∧ fs.length ≤ 900 ∧ D.nx σ (upd H2 dx (exd dx ((f, y) :: fs))))
theorem ps_oxs {X : Cx} {b : Bs} {o e : Expr} {to te : TE} {f : Str} {p' pos : Pos} (ho : PE X o to) (he : PE X e te) (hs : swapsWith e (some (.Attribute o f p')) pos.line X.env = pure false := by rfl) : PS X (.Assign [.Attribute o f p'] e pos) (tOxs X.K b f to te) := by
  refine ⟨fun pins s σ H D I h => ?_⟩
  refine plainObj_wpAny_Assign_Attribute (thn (he.run pins s σ H _ I h) fun v s1 hh => ?_) hs
  obtain ⟨y, H1, I1, r1, q1⟩ := hh
  refine thn (ho.run pins s1 σ H1 _ I1 q1) fun u s2 hh => ?_
  obtain ⟨x, H2, I2, r2, a, C, ex, T, hno, q⟩ := hh
  subst ex
  obtain rfl : u = Value.ref a := r2
  rcases q with ⟨ea, q⟩ | ⟨dx, fs, ea, ed, hl, q⟩
  · exact sto_first T I2 ea hno r1 fun dx s' n ne J => ⟨σ, _, J, q dx n ne⟩
  · exact sto_next T I2 ea ed hl hno r1 fun s' J => ⟨σ, _, J, q⟩
theorem pe_xinit {X : Cx} {b : Bs} (hb : BasF b) {np apos pos : Pos} {e : Expr} {es : List Expr} {t : TA} {pl : Sem Bool} (hg : Gl X b.B) (hm : X.mg b.B = none) (ha : PA X (e :: es) t)
    (he : starEach (e :: es) X.env = (false, eval e X.env) :: starEach es X.env := by rfl) (hpl : (backTo pos (starEach es X.env)).any (·.1) = false := by rfl)
    (ht : eval (.Call (.Attribute (.Name b.B np) "__init__" apos) (e :: es) [] pos) X.env = (do
      let w ← eval (.Name b.B np) X.env
      standAt apos.atName
      let (f, first) ← holding [w] (getMethod w "__init__" pl)
      callWith pos f first (backTo pos (starEach (e :: es) X.env)) (backToKw pos (keywordEach [] X.env))) := by rfl) :
    PE X (.Call (.Attribute (.Name b.B np) "__init__" apos) (e :: es) [] pos) (tCB (rXi X.K b) t) := NwS.pe_tyat call_xi hb.t hg hm hb.v ha hb.n hb.d he hpl ht
/-- C(e, ..) -/
theorem pmk_oxb {X : Cx} {CX : CXT} {b : Bs} {x : Str} {C fI : Addr} {k : Nat} {fd : FuncData} {ps : List Str} {sp : Sp} {ds : List Value} {dvs : List V} {ta : TA} {e : Expr} {es : List Expr} {p pos : Pos} (T : OxB X.K C b) (iC : PySem.W.findIn X.K (.ref C) "__init__" = some (some (.ref fI))) (tI : PySem.W.typeIn X.K (.ref fI) = some (.type "function"))
    (F1 : FnOk X.prog X.w X.K X.mg X.base CX k fI fd ps sp) (hr : Room (k + 1) X.A) (hb : Binds X.K fd ps ds) (hd : Vals dvs ds) (hx : Passes CX X (fun _ _ _ => False)) (hg : Gl X x) (hm : X.mg x = some (.ref C)) (ha : PA X (e :: es) ta)
    (hdb : (x == ("__debug__" : Str)) = false := by decide) (he : starEach (e :: es) X.env = (false, eval e X.env) :: starEach es X.env := by rfl) (hpl : (backTo pos (starEach es X.env)).any (·.1) = false := by rfl) :
    PMk X (.Call (.Name x p) (e :: es) [] pos) (tMkO C sp dvs ta) := by
  intro pins s σ H Q I h
  refine wpAny_Call_Name_kw (ld_glob I hg hm ?_ hdb)
  refine PySem.W.callWith_K (h₀ := X.base) I.ok.mod.kin T.kC (thn (ha.run pos pins s σ H _ I h) fun us s1 hh => ?_) he hpl
  obtain ⟨vs, H1, I1, r1, hz, q1⟩ := hh
  refine ⟨I1.kIn, ?_⟩
  show wpAny _ _ (call (.ref C) us) _ _ _
  obtain ⟨_, _, _, _, _, _, _, _, _, _, _, _, _, _, _, _, hC, hT⟩ := PySem.W.excInit_of I1.kIn T.q
  obtain ⟨hp, g, dr, tk, os⟩ := s1
  have up : hp.objs.size ≤ hp.objs.size + 1 := Nat.le_succ _
  have hq := q1 (hp.objs.size + 1) (I1.hok.fresh up)
  have kk : ∀ c o, hp.get? c = some o → ((hp.push (PySem.W.kdv_tup us)).push (PySem.HandSPX.excO C hp.objs.size)).get? c = some o := fun c o z => Heap.get?_push_of_some _ (Heap.get?_push_of_some _ z)
  have new : ((hp.push (PySem.W.kdv_tup us)).push (PySem.HandSPX.excO C hp.objs.size)).get? (hp.objs.size + 1) = some (PySem.HandSPX.excO C hp.objs.size) := by heap_get
  have I2 := I1.laid (t' := tk) (a := hp.objs.size + 1) (o := exo (hp.objs.size + 1) C none) kk up (exo_ok new)
  have r2 : Vals (V.ref (hp.objs.size + 1) :: (vs ++ dvs)) (Value.ref (hp.objs.size + 1) :: (us ++ ds)) := .cons rfl (r1.append hd)
  have many : (Value.ref (hp.objs.size + 1) :: us ++ ds).length = ps.length := (r2.length.symm.trans (F1.len _ _ _ _ hq))
  have few : us.length ≤ sizeLine := by
    rw [← Paired.length r1, sizeLine_eq]
    omega
  have run := F1.run (X.A.under (.builtin "type.__call__" ⟨.ref C :: us, []⟩)) X.stack _ _ ⟨Value.ref (hp.objs.size + 1) :: us, []⟩ (Value.ref (hp.objs.size + 1) :: (us ++ ds)) _ _ (fun _ _ _ => False) (hr.make C us []) (I2.env0.make C us []) (hb _ (Value.ref (hp.objs.size + 1) :: us) I2.kIn many) r2 hq
  refine wpAny_call (PySem.HandSPX.call_own T.bf.f hT hC (PySem.W.looks_findIn I1.kIn iC) (fun self => PySem.W.bind_fn I1.kIn self tI) few (codeAny_mono run fun r s' z => ?_))
  cases r with
  | error er => exact hx pins σ _ _ er s' I2 z
  | ok fl =>
    cases fl with
    | ret u =>
      obtain ⟨v, H2, os2, bare2, un2, hok2, rv, ev, d, fs, ea, ed, hd1, q2⟩ := z
      subst ev
      obtain ⟨h2, g2, d2, t2, os'⟩ := s'
      exact ⟨rv, mk_end (raises_own T.exC T.tyC) I1 up kk un2 hok2 os2 bare2 ea ed hd1 q2⟩
    | _ => exact False.elim z
/-- what such an __init__ promises; fr: the fields' names, last stored first -/
def spX (K : PySem.W.Frag) (C : Addr) (fr : List Str) : Sp := fun vs H Q _ => ∃ (a : Addr) (xs : List V), vs = .ref a :: xs ∧ xs.length = fr.length ∧ H a = some (exo a C none) ∧
  ∀ dx H', H dx = none → dx ≠ a → H' a = some (exo a C (some dx)) → H' dx = some (exd dx (fr.zip xs.reverse)) → (∀ c, c ≠ a → c ≠ dx → H' c = H c) → Q .non H'
theorem RpL.rev {ω : Wd} : ∀ {vs : List V} {ds : List Dt}, RpL ω vs ds → RpL ω vs.reverse ds.reverse
  | _, _, .nil => .nil
  | _, _, .cons a r => by
    rw [List.reverse_cons, List.reverse_cons]
    exact r.rev.app (.cons a .nil)
def sRaiseX (n : Nat) (fr : List Str) (ma : MA) (md : List Dt) : MS := fun δ μ => (ma δ μ).thn δ fun es μ1 => if (es ++ md).length = fr.length ∧ fr.length ≤ 900 then .ex n fr (es ++ md).reverse δ μ1 else .no
section
variable {Γ : Gm} {W : WX} {K : PySem.W.Frag}
theorem sv_raiseX {n : Nat} {fr : List Str} {ta : TA} {ma : MA} {dvs : List V} {md : List Dt} (hd : ∀ ω : Wd, ω.Γ = Γ → RpL ω dvs md) (ha : AV Γ W ta ma) :
    SV Γ W (fun _ σ H => tMkO (Γ.c n) (spX K (Γ.c n) fr) dvs ta σ H fun cls d H' => W cls d σ H') (sRaiseX n fr ma md) := fun D σ H ⟨ω, δ, μ, hg, he, hw, h⟩ =>
  ha σ H _ ⟨ω, δ, μ, hg, he, hw, GoE.splitS (f := fun es μ1 => if (es ++ md).length = fr.length ∧ fr.length ≤ 900 then .ex n fr (es ++ md).reverse δ μ1 else .no) he h fun es μ1 vs ω1 H1 l1 w1 r1 h1 => by
    split at h1
    · rename_i hl
      have hg1 := l1.g.trans hg
      have r2 := r1.app (hd ω1 hg1)
      have hvl := r2.len
      refine ⟨by have := hl.1; simp only [List.length_append] at this hvl; omega, fun a na => ⟨a, vs ++ dvs, rfl, by rw [hvl]; exact hl.1, upd_same, fun dx H' ndx hdx ea ed eo => ⟨rfl, dx, _, ea, ed, ?_, ?_⟩⟩⟩
      · rw [upd_ne hdx] at ndx
        exact ndx
      · rw [upd_ne hdx] at ndx
        have e : upd (del H' a) dx (.xd (fr.zip (vs ++ dvs).reverse)) = upd H1 dx (.xd (fr.zip (vs ++ dvs).reverse)) := funext fun b => by
          by_cases hb : b = dx
          · rw [hb, upd_same, upd_same]
          · rw [upd_ne hb, upd_ne hb]
            by_cases hba : b = a
            · rw [hba, del_same, na]
            · rw [del_ne hba, eo b hba hb, upd_ne hba]
        rw [e]
        obtain ⟨l2, w2⟩ := w1.newB (u := .xd (fr.zip (vs ++ dvs).reverse)) ndx
        have q := h1 (some dx) σ _ _ l2 w2 ((he.mono l1).mono l2) (.inr ⟨dx, (vs ++ dvs).reverse, rfl, upd_same, (r2.mono l2).rev⟩)
        rw [hg1] at q
        exact q
    · exact h1.elim⟩
end
/-! ### the __init__ itself -/
def tFs (K : PySem.W.Frag) (b : Bs) : List (Str × Nat) → TS
  | [] => tNext
  | p :: l => tSeq (tOxs K b p.1 (tVar 0) (tVar p.2)) (tFs K b l)
/-- the fields, as they come to stand -/
def accF : List (Str × Nat) → L2.St → List (Str × V) → Option (List (Str × V))
  | [], _, fs => some fs
  | p :: l, σ, fs => match σ[p.2]? with
    | some (some y) => accF l σ ((p.1, y) :: fs)
    | _ => none
theorem tFs_next {K : PySem.W.Frag} {b : Bs} {C a dx : Addr} {D : Ends} {σ : L2.St} (T : OxB K C b) (h0 : σ[0]? = some (some (.ref a))) (hdx : dx ≠ a) : ∀ (l : List (Str × Nat)) (fs gs : List (Str × V)) (H : Hp), (∀ p ∈ l, PySem.W.findIn K (.ref C) p.1 = some none) → H a = some (exo a C (some dx)) → H dx = some (exd dx fs) → fs.length + l.length ≤ 900 → accF l σ fs = some gs →
    (∀ H', H' a = some (exo a C (some dx)) → H' dx = some (exd dx gs) → (∀ c, c ≠ a → c ≠ dx → H' c = H c) → D.nx σ H') → tFs K b l D σ H
  | [], fs, gs, H, _, ha, hd, _, hg, k => by
    cases hg
    exact k H ha hd fun _ _ _ => rfl
  | p :: l, fs, gs, H, hno, ha, hd, hl, hg, k => by
    unfold accF at hg
    split at hg
    · rename_i y hy
      have hl2 : fs.length ≤ 900 := Nat.le_trans (Nat.le_add_right _ _) hl
      refine ⟨y, hy, .ref a, h0, a, C, rfl, T, hno p List.mem_cons_self, .inr ⟨dx, fs, ha, hd, hl2, ?_⟩⟩
      refine tFs_next T h0 hdx l _ gs _ (fun q hq => hno q (List.mem_cons_of_mem _ hq)) ((upd_ne (Ne.symm hdx)).trans ha) upd_same (by simp only [List.length_cons] at hl ⊢; omega) hg fun H' e1 e2 e3 => k H' e1 e2 fun b b1 b2 => (e3 b b1 b2).trans (upd_ne b2)
    · cases hg
theorem tFs_all {K : PySem.W.Frag} {b : Bs} {C a : Addr} {D : Ends} {σ : L2.St} {H : Hp} {l : List (Str × Nat)} {gs : List (Str × V)} {ta : TA} {ws : List V} (T : OxB K C b) (h0 : σ[0]? = some (some (.ref a))) (hne : l ≠ []) (hno : ∀ p ∈ l, PySem.W.findIn K (.ref C) p.1 = some none) (hl : l.length ≤ 900) (ha : H a = some (exo a C none))
    (hta : ∀ Q, Q (.ref a :: ws) H → ta σ H Q) (hw : ws.length ≤ 1000) (hg : accF l σ [] = some gs)
    (k : ∀ dx H', H dx = none → dx ≠ a → H' a = some (exo a C (some dx)) → H' dx = some (exd dx gs) → (∀ c, c ≠ a → c ≠ dx → H' c = H c) → D.nx σ H') : tSeq (tDrop (tCB (rXi K b) ta)) (tFs K b l) D σ H := by
  refine hta _ ⟨a, C, ws, rfl, hw, T, ha, ?_⟩
  cases l with
  | nil => exact absurd rfl hne
  | cons p l =>
    unfold accF at hg
    split at hg
    · rename_i y hy
      refine ⟨y, hy, .ref a, h0, a, C, rfl, T, hno p List.mem_cons_self, .inl ⟨ha, fun dx ndx hdx => ?_⟩⟩
      refine tFs_next T h0 hdx l _ gs _ (fun q hq => hno q (List.mem_cons_of_mem _ hq)) upd_same ((upd_ne hdx).trans upd_same) (by simp only [List.length_cons, List.length_nil] at hl ⊢; omega) hg fun H' e1 e2 e3 => k dx H' ndx hdx e1 e2 fun b b1 b2 => (e3 b b1 b2).trans ((upd_ne b1).trans (upd_ne b2))
    · cases hg
/-- a def that is such an __init__ -/
theorem okX {P : Program} {w : World} {K : PySem.W.Frag} {mg : Str → Option Value} {base : Heap} {b : Bs} {C : Addr} {qual : Str} {st : Stmt} {f : Addr} {fd : FuncData} {N ps fr : List Str} {k : Nat} {kws : List (Str × V)} {l : List (Str × Nat)} {ta : TA} (F : FunD K "__init__" qual (defArgs st) (defBody st) (defScope st) [] kws f fd) (S : FnScope N ps (defScope st))
    (T : OxB K C b) (hps : ps.length = fr.length + 1) (hne : l ≠ []) (hl : l.length ≤ 900) (hno : ∀ p ∈ l, PySem.W.findIn K (.ref C) p.1 = some none) {w0 : V} (hta : ∀ a vs H Q, Q [.ref a, w0] H → ta (start N (.ref a :: vs)) H Q)
    (hacc : ∀ a xs, xs.length = fr.length → accF l (start N (.ref a :: xs)) [] = some (fr.zip xs.reverse))
    (hbody : ∀ (cdv : Value) (A : Around) (outer : List PySem.Env) (s : Shared) (H : Hp) (E : XK), Room k (A.deeper (envOfC qual (defScope st) s.heap.objs.size f cdv)) →
      PSs (cxOf (L2.CX P w) P w K mg base N qual (defScope st) f cdv A outer s H E) (defBody st) (tSeq (tDrop (tCB (rXi K b) ta)) (tFs K b l))) :
    FnOk P w K mg base (L2.CX P w) (k + 1) f fd ps (spX K C fr) :=
  F.ok S (fun vs H Q E ⟨a, xs, e, hx, _⟩ => by rw [e, List.length_cons, hx, hps]) fun cdv A outer s H vs Q E hr ⟨a, xs, e, hx, ha, h⟩ => by
    subst e
    exact ⟨_, hbody cdv A outer s H E hr, tFs_all T rfl hne hno hl ha (fun Q q => hta a xs H Q q) (show 1 ≤ 1000 by decide) (hacc a xs hx) h⟩
/-- a class over ValueError with such an __init__ -/
structure DefX (P : Program) (w : World) (K : PySem.W.Frag) (mg : Str → Option Value) (base : Heap) (C : Addr) (qual : Str) (st : Stmt) (k : Nat) (ps : List Str) (kws : List (Str × V)) (fr : List Str) (b : Bs) : Prop where
  ex : ∃ g fd, FunD K "__init__" qual (defArgs st) (defBody st) (defScope st) [] kws g fd ∧ FnOk P w K mg base (L2.CX P w) k g fd ps (spX K C fr) ∧ OxB K C b ∧ PySem.W.findIn K (.ref C) "__init__" = some (some (.ref g)) ∧ PySem.W.typeIn K (.ref g) = some (.type "function")
theorem pmk_dX {X : Cx} {W : WX} {C : Addr} {x qual : Str} {st : Stmt} {k : Nat} {ps : List Str} {kd : List (Str × V)} {fr : List Str} {b : Bs} {ta : TA} {e : Expr} {es : List Expr} {p pos : Pos} (D : DefX X.prog X.w X.K X.mg X.base C qual st k ps kd fr b) (n : Nat) (hk : kd ≠ []) (hn : n + kd.length = ps.length)
    (h : ∀ (D : Addr) (doc pm : Value) (an : Option Addr) (cdv ct : Value) (us ks : List Value), us.length = n → ks.length = kd.length →
      KwChain D ((kd.map (·.1)).zip ks) (bindArgs (PySem.W.fnOf "__init__" qual (defArgs st) (defBody st) (defScope st) .none (.ref D) doc pm an cdv ct) ⟨us, []⟩) (ps.zip (us ++ ks)))
    (hr : Room (k + 1) X.A) (tk : Takes X W) (hg : Gl X x) (hm : X.mg x = some (.ref C)) (ha : PA X (e :: es) ta)
    (hdb : (x == ("__debug__" : Str)) = false := by decide) (he : starEach (e :: es) X.env = (false, eval e X.env) :: starEach es X.env := by rfl) (hpl : (backTo pos (starEach es X.env)).any (·.1) = false := by rfl) :
    PMk X (.Call (.Name x p) (e :: es) [] pos) (tMkO C (spX X.K C fr) (kd.map (·.2)) ta) := by
  obtain ⟨g, fd, F, G, T, iC, tI⟩ := D.ex
  obtain ⟨ds, rd, hb⟩ := F.binds0 n hk hn h
  exact pmk_oxb T iC tI G hr hb rd (passes_call tk fun _ _ _ _ z => z.elim) hg hm ha hdb he hpl
end DM

set_option linter.all false
set_option maxRecDepth 100000
set_option maxHeartbeats 4000000
/-! DMF: len(o) by an own __len__. -/
namespace DM
open PySem PySem.Spec PyProof.Rows L2
open Classical
def rLenM (Γ : Gm) (tb : Nat → Option (List Dt → Mem → R Dt)) : List V → Hp → VK → Prop := fun xs H Q => ∃ (a : Addr) (cn : Nat) (f : List Dt → Mem → R Dt) (dx : Addr) (fs : List (Str × V)), xs = [.ref a] ∧ H a = some (.ins (Γ.c cn) dx fs) ∧ tb cn = some f ∧
  FM Γ f [.ref a] H (fun v H2 => ∃ k : Int, v = .int k ∧ 0 ≤ k ∧ k ≤ 1000000000 ∧ Q (.int k) H2) fun _ _ _ => False
def cLenM (tb : Nat → Option (List Dt → Mem → R Dt)) (ds : List Dt) (μ : Mem) : R Dt := match ds with
  | [.ptr i] => (match μ[i]? with
    | some (.ins cn _) => (match tb cn with
      | some f => (match f [.ptr i] μ with
        | .ok (.int k) μ1 => if 0 ≤ k ∧ k ≤ 1000000000 then .ok (.int k) μ1 else .no
        | _ => .no)
      | none => .no)
    | _ => .no)
  | _ => .no
theorem rc_lenM {Γ : Gm} {tb : Nat → Option (List Dt → Mem → R Dt)} : RC Γ (rLenM Γ tb) (cLenM tb) := fun W ω σ μ H xs ds Q hg w r h => by
  unfold cLenM at h
  split at h
  · rename_i i
    split at h
    · rename_i cn fs e
      split at h
      · rename_i f ef
        split at h
        · rename_i k μ1 er
          split at h
          · rename_i hk
            obtain ⟨x, rfl, rx⟩ := r.one
            cases rx with
            | ptr hb =>
              obtain ⟨_, dx, vs, hx, rk⟩ := w.at_ _ _ _ hb e
              rw [hg] at hx
              refine ⟨_, cn, f, dx, vs, rfl, hx, ef, ω, [.ptr i], μ, hg, .cons (.ptr hb) .nil, w, ?_⟩
              rw [er]
              intro v ω' H' l' w' r'
              cases r' with
              | int => exact ⟨k, rfl, hk.1, hk.2, h _ ω' H' l' w' (.int k)⟩
          · exact h.elim
        · exact h.elim
      · exact h.elim
    · exact h.elim
  · exact h.elim
theorem own_special {M : Model} {A : Around} {E : Value → Shared → Prop} {s : Shared} {K : PySem.W.Frag} {self : Value} {nm : Str} {g : Addr} {args : List Value} {Q : Option Value → Shared → Prop} (X : K.In s.heap) (sp : PySem.W.Looks M s.heap (specialOf self nm) (some (.ref g))) (hf : PySem.W.typeIn K (.ref g) = some (.type "function"))
    (hc : wpAny M A (call (.ref g) (self :: args)) (fun v => Q (some v)) E s) : wpAny M A (callSpecial? self nm args) Q E s := by
  have lb := PySem.W.bind_fn (M := M) X self hf
  simp only [callSpecial?]
  refine wpAny_bind (sp.here ?_)
  refine wpAny_holding (wpAny_bind (lb.here (wpAny_bind ?_)))
  exact wpAny_mono hc (fun v s' z => wpAny_pure z) fun _ _ z => z
theorem call_lenM {X : Cx} {K : PySem.W.Frag} {Γ : Gm} {tb : Nat → Option (List Dt → Mem → R Dt)} {k : Nat} (hK : X.K = K) (hT : ∀ cn f, tb cn = some f → MethB X.prog X.w X.K X.mg X.base Γ "__len__" cn k 0 [] (fun vs zs => pm [0] (vs ++ (([] : List (Str × V)).map (·.2)) ++ zs)) f) (hr : Room (k + 1) X.A) : CallR X (.builtin "len") (rLenM Γ tb) := by
  intro pins s σ H xs us Q I r hx
  obtain ⟨a, cn, f, dx, fs, rfl, ea, et, hf⟩ := hx
  obtain ⟨u, rfl, ru⟩ := vals1 r
  obtain rfl : u = Value.ref a := ru
  obtain ⟨g, fd, ps, gg, c, hm, F, hb⟩ := (hT cn f et).ex
  have hfn : PySem.W.typeIn X.K (.ref g) = some (.type "function") := beq_iff_eq.mp hm.fn
  obtain ⟨mA, J, _⟩ := ins_get I.hok ea
  obtain ⟨od, J, _⟩ := J.look
  have sp : PySem.W.Looks (model X.prog X.w) s.heap (specialOf (.ref a) "__len__") (some (.ref g)) := J.type.andThen (PySem.W.looks_findIn I.kIn hm.at_)
  have e0 : Env0 X.prog X.w X.K X.mg X.base X.A.in1 X.stack s H := by
    have e := I.env0
    exact ⟨e.frames, e.mod, e.bs, e.bsz, e.funs, e.frf, e.hok, e.bare⟩
  have hl : ([Value.ref a] : List Value).length = 0 + 1 := rfl
  have rr : Vals [V.ref a] [Value.ref a] := .cons rfl .nil
  have run := F.run X.A.in1 X.stack s H ⟨[Value.ref a], []⟩ (gg [Value.ref a] []) _ _ _ hr.in1 e0 (hb.to s _ [] I.kIn hl rfl) (hb.rel rr .nil) hf
  refine PySem.Calls.call_function_entry kind_len plain_len entry_len (args_len1 _) ?_
  unfold Builtin.«len»
  refine wpAny_bind (m := oneArg "len" _) (wpAny_pure ?_)
  refine wpAny_bind (m := callSpecial? (.ref a) (PySem.Str.ofString "__len__")) (own_special I.kIn sp hfn ?_)
  refine wpAny_call (codeAny_mono run fun res s' z => ?_)
  cases res with
  | error e =>
    obtain ⟨_, _, _, _, _, _, _, _, _, _, _, _, hE⟩ := z
    exact hE.elim
  | ok fl => cases fl with
    | ret u =>
      obtain ⟨v, H', I', rv, k, ev, k0, k1, q⟩ := I.after z
      subst ev
      obtain ⟨t, rfl⟩ : ∃ t, u = Value.int k t := rv
      refine wpAny_bind (wpAny_holding (wpAny_pure ?_))
      refine wpAny_bind (wpAny_letGo ?_)
      show wpAny _ _ (if k < 0 then _ else _) _ _ _
      rw [if_neg (by omega)]
      show wpAny _ _ (if k ≥ 2 ^ 63 then _ else _) _ _ _
      rw [if_neg (by omega)]
      refine wpAny_bind (wpAny_mkInt (wpAny_pure ⟨_, rfl, ?_⟩))
      exact ⟨.int k, H', I'.tok _, ⟨_, rfl⟩, q⟩
    | _ => exact False.elim z
/-! ### len of a dict -/
def rLenD : List V → Hp → VK → Prop := fun xs H Q => ∃ a kvs, xs = [V.ref a] ∧ H a = some (.dK kvs) ∧ Q (.int kvs.length) H
theorem k_lenD {X : Cx} : CallR X (.builtin "len") rLenD := call_lenD
def cLenD (ds : List Dt) (μ : Mem) : R Dt := match ds with
  | [d] => (match asK μ d with
    | some kvs => .ok (.int kvs.length) μ
    | none => .no)
  | _ => .no
theorem rc_lenD {Γ : Gm} : RC Γ rLenD cLenD := fun W ω σ μ H xs ds Q hg w r h => by
  unfold cLenD at h
  split at h
  · rename_i d
    split at h
    · rename_i kvs e
      obtain ⟨x, rfl, rx⟩ := r.one
      obtain ⟨i, a, vs, rfl, rfl, _, _, hx, rk⟩ := asK_ok w rx e
      exact ⟨a, vs, rfl, hx, by rw [rk.len]; exact h.ok w (.int _)⟩
    · exact h.elim
  · exact h.elim
end DM

set_option linter.all false
set_option maxRecDepth 100000
set_option maxHeartbeats 4000000
/-! DMG: dicts by tuples of texts; dicts that are walked; in a tuple of anything. -/
namespace DM
open PySem PySem.Spec PyProof.Rows L2
open Classical
/-! ### what a world forgets -/
structure NoLst (u : HO) : Prop where
  l : ∀ xs, u ≠ .lst xs
  t : ∀ xs, u ≠ .tup xs
  f : ∀ o xs, u ≠ .frz o (.lst xs)
  e : ∀ f, u ≠ .ext f
  x : ∀ fs, u ≠ .xd fs
theorem ne_at {B : Hp} {a c : Addr} {u v : HO} (hB : B a = some u) (h : B c = some v) (n : u ≠ v) : c ≠ a := fun z => by
  rw [z, hB] at h
  exact n (Option.some.inj h)
section
variable {ω : Wd} {a : Addr} {u : HO}
mutual
theorem Rp.unl (hB : ω.B a = some u) (n : NoLst u) : ∀ {v : V} {d : Dt}, Rp ω v d → Rp { ω with B := del ω.B a } v d
  | _, _, .non => .non
  | _, _, .bl b => .bl b
  | _, _, .int i => .int i
  | _, _, .str x => .str x
  | _, _, .lst h r => .lst ((del_ne (ne_at hB h (n.l _))).trans h) (RpL.unl hB n r)
  | _, _, .tup h r => .tup ((del_ne (ne_at hB h (n.t _))).trans h) (RpL.unl hB n r)
  | _, _, .scr h r => .scr (h.elim (fun ⟨o, z⟩ => .inl ⟨o, z.elim (fun z => .inl ((del_ne (ne_at hB z (n.l _))).trans z)) fun z => .inr ((del_ne (ne_at hB z (n.f _ _))).trans z)⟩) .inr) (RpL.unl hB n r)
  | _, _, .ptr h => .ptr h
  | _, _, .ktp h r => .ktp h (RpL.unl hB n r)
  | _, _, .ty m => .ty m
  | _, _, .cls m => .cls m
  | _, _, .exn h => .exn ((del_ne (ne_at hB h (n.e _))).trans h)
  | _, _, .exd h1 h2 r => .exd ((del_ne (ne_at hB h1 (n.e _))).trans h1) ((del_ne (ne_at hB h2 (n.x _))).trans h2) (RpL.unl hB n r)
theorem RpL.unl (hB : ω.B a = some u) (n : NoLst u) : ∀ {vs : List V} {ds : List Dt}, RpL ω vs ds → RpL { ω with B := del ω.B a } vs ds
  | _, _, .nil => .nil
  | _, _, .cons h r => .cons (Rp.unl hB n h) (RpL.unl hB n r)
end
theorem RpK.unl {κ : Type} (hB : ω.B a = some u) (n : NoLst u) {vs : List (κ × V)} {ds : List (κ × Dt)} (r : RpK ω vs ds) : RpK { ω with B := del ω.B a } vs ds := by
  induction r with
  | nil => exact .nil
  | cons h _ ih => exact .cons (h.unl hB n) ih
theorem MOR.unl {H H' : Hp} {c : Addr} {o : MO} (h : MOR ω H c o) (hB : ω.B a = some u) (n : NoLst u) (hc : c ≠ a) (e : H' c = H c) : MOR { ω with B := del ω.B a } H' c o := by
  cases o with
  | lst ds => obtain ⟨z, xs, q, r⟩ := h; exact ⟨(del_ne hc).trans z, xs, e.trans q, r.unl hB n⟩
  | dK ds => obtain ⟨z, xs, q, r⟩ := h; exact ⟨(del_ne hc).trans z, xs, e.trans q, r.unl hB n⟩
  | dT ds => obtain ⟨z, xs, q, r⟩ := h; exact ⟨(del_ne hc).trans z, xs, e.trans q, r.unl hB n⟩
  | ins m ds => obtain ⟨z, dx, xs, q, r⟩ := h; exact ⟨(del_ne hc).trans z, dx, xs, e.trans q, r.unl hB n⟩
  | gone => obtain ⟨x, q⟩ := h; exact ⟨x, e.trans q⟩
  | lk ds => obtain ⟨o, vs, b1, q, r⟩ := h; exact ⟨o, vs, (del_ne hc).trans b1, e.trans q, r.unl hB n⟩
  | lkT ds => obtain ⟨o, vs, b1, q, r⟩ := h; exact ⟨o, vs, (del_ne hc).trans b1, e.trans q, r.unl hB n⟩
end
/-- a tuple that stands somewhere is known from then on -/
theorem WR.knowT {ω : Wd} {μ : Mem} {H : Hp} {q : Addr} {xs : List V} (w : WR ω μ H) (hq : H q = some (.tup xs)) : ∃ ω', Le ω ω' ∧ WR ω' μ H ∧ ω'.B q = some (.tup xs) := by
  cases hb : ω.B q with
  | some o =>
    have := w.x q o hb
    rw [hq] at this
    cases this
    exact ⟨ω, Le.refl _, w, hb⟩
  | none =>
    have hF : ω.F q = none := by
      cases e : ω.F q with
      | none => rfl
      | some o =>
        obtain ⟨_, ⟨ys, rfl⟩ | ⟨p, rfl⟩ | ⟨p, rfl⟩⟩ := w.fb q o e
        all_goals
          have := w.fr q _ e
          rw [hq] at this
          cases this
    have l : Le ω { ω with B := upd ω.B q (.tup xs) } := ⟨rfl, fun _ _ h => h, same_upd hb, rfl⟩
    refine ⟨_, l, ⟨fun c u z => ?_, w.len, w.inj, fun j c o h1 e1 => ?_, w.fr, w.fa, fun c o e1 => ⟨(upd_ne (ne_of_none e1 hF)).trans (w.fb c o e1).1, (w.fb c o e1).2⟩⟩, upd_same⟩
    · by_cases hc : c = q
      · subst hc
        have z : upd ω.B c (.tup xs) c = some u := z
        rw [upd_same] at z
        cases z
        exact hq
      · have z : upd ω.B q (.tup xs) c = some u := z
        rw [upd_ne hc] at z
        exact w.x c u z
    · have m := w.at_ j c o h1 e1
      by_cases hc : c = q
      · subst hc
        cases o with
        | lst ds => obtain ⟨_, ys, z, _⟩ := m; rw [hq] at z; cases z
        | dK ds => obtain ⟨_, ys, z, _⟩ := m; rw [hq] at z; cases z
        | dT ds => obtain ⟨_, ys, z, _⟩ := m; rw [hq] at z; cases z
        | ins n ds => obtain ⟨_, _, ys, z, _⟩ := m; rw [hq] at z; cases z
        | gone => exact ⟨_, hq⟩
        | lk ds => obtain ⟨_, _, _, z, _⟩ := m; rw [hq] at z; cases z
        | lkT ds => obtain ⟨_, _, _, z, _⟩ := m; rw [hq] at z; cases z
      · exact m.move l rfl fun z => (upd_ne hc).trans z

/-! ### a dict that is locked while it is walked (T) -/
theorem nolstT {od : Obj} {vs : List (List Key × V)} : NoLst (.frz od (.dT vs)) := ⟨fun xs z => (by cases z), fun xs z => (by cases z), fun o xs z => (by cases z), fun f z => (by cases z), fun fs z => (by cases z)⟩
theorem WR.lockT {ω : Wd} {μ : Mem} {H : Hp} {i : Nat} {a : Addr} {kvs : List (List Key × Dt)} (w : WR ω μ H) (h : ω.α[i]? = some a) (e : μ[i]? = some (.dT kvs)) : ∃ vs, H a = some (.dT vs) ∧ ω.B a = none ∧ ∀ od : Obj, Le ω { ω with B := upd ω.B a (.frz od (.dT vs)) } ∧ WR { ω with B := upd ω.B a (.frz od (.dT vs)) } (μ.set i (.lkT kvs)) (upd H a (.frz od (.dT vs))) := by
  obtain ⟨hb, vs, hx, r⟩ := w.at_ i a _ h e
  refine ⟨vs, hx, hb, fun od => ?_⟩
  have l : Le ω { ω with B := upd ω.B a (.frz od (.dT vs)) } := ⟨rfl, fun _ _ h => h, same_upd hb, rfl⟩
  have hi : i < μ.length := (List.getElem?_eq_some_iff.mp e).1
  refine ⟨l, ⟨same_upd2 w.x, by rw [List.length_set]; exact w.len, w.inj, fun j c o h1 e1 => ?_, same_hid w.fr (w.fa i a h), w.fa, fun c o e1 => ⟨(upd_ne (ne_of_none e1 (w.fa i a h))).trans (w.fb c o e1).1, (w.fb c o e1).2⟩⟩⟩
  have h1 : ω.α[j]? = some c := h1
  by_cases hj : j = i
  · subst hj
    rw [h] at h1
    cases h1
    rw [List.getElem?_set_self hi] at e1
    cases e1
    exact ⟨od, vs, upd_same, upd_same, r.mono l⟩
  · rw [List.getElem?_set_ne (Ne.symm hj)] at e1
    have hne : c ≠ a := fun z => hj (w.inj j i c h1 (by rw [z]; exact h))
    exact (w.at_ j c o h1 e1).move l (upd_ne hne) fun z => (upd_ne hne).trans z
theorem WR.freeT {ω : Wd} {μ : Mem} {H : Hp} {i : Nat} {a : Addr} {od : Obj} {vs : List (List Key × V)} {kvs : List (List Key × Dt)} (w : WR ω μ H) (h : ω.α[i]? = some a) (hB : ω.B a = some (.frz od (.dT vs))) (e : μ[i]? = some (.lkT kvs)) :
    H a = some (.frz od (.dT vs)) ∧ WR { ω with B := del ω.B a } (μ.set i (.dT kvs)) (upd H a (.dT vs)) := by
  obtain ⟨o2, vs2, b2, hx, r⟩ := w.at_ i a _ h e
  rw [hB] at b2
  cases b2
  have hi : i < μ.length := (List.getElem?_eq_some_iff.mp e).1
  have nl := nolstT (od := od) (vs := vs)
  refine ⟨hx, ⟨fun c u q => ?_, by rw [List.length_set]; exact w.len, w.inj, fun j c o h1 e1 => ?_, fun c u q => ?_, w.fa, fun c o e1 => ?_⟩⟩
  · have q : del ω.B a c = some u := q
    by_cases hc : c = a
    · rw [hc, del_same] at q
      cases q
    · rw [del_ne hc] at q
      rw [upd_ne hc]
      exact w.x c u q
  · have h1 : ω.α[j]? = some c := h1
    by_cases hj : j = i
    · subst hj
      rw [h] at h1
      cases h1
      rw [List.getElem?_set_self hi] at e1
      cases e1
      exact ⟨del_same, vs, upd_same, r.unl hB nl⟩
    · rw [List.getElem?_set_ne (Ne.symm hj)] at e1
      have hne : c ≠ a := fun z => hj (w.inj j i c h1 (by rw [z]; exact h))
      exact (w.at_ j c o h1 e1).unl hB nl hne (upd_ne hne)
  · have q : ω.F c = some u := q
    have hc : c ≠ a := ne_of_none q (w.fa i a h)
    rw [upd_ne hc]
    exact w.fr c u q
  · have e1 : ω.F c = some o := e1
    have hc : c ≠ a := ne_of_none e1 (w.fa i a h)
    exact ⟨(del_ne hc).trans (w.fb c o e1).1, (w.fb c o e1).2⟩
def mLockT (pick m : MX) : MX := fun δ μ => match pick δ μ with
  | .ok (.ptr i) _ => (match μ[i]? with
    | some (.dT kvs) => (match m δ (μ.set i (.lkT kvs)) with
      | .ok d μ2 => (match μ2[i]? with
        | some (.lkT kvs2) => .ok d (μ2.set i (.dT kvs2))
        | _ => .no)
      | _ => .no)
    | _ => .no)
  | _ => .no
theorem ev_lockT {Γ : Gm} {W : WX} {t : TE} {pick m : MX} (ht : EV Γ W t m) : EV Γ W (tLockE t) (mLockT pick m) := fun σ H Q ⟨ω, δ, μ, hg, he, hw, h⟩ => by
  unfold mLockT at h
  split at h
  · rename_i i μ0 ep
    split at h
    · rename_i kvs e
      have hi : i < ω.α.length := by rw [hw.len]; exact (List.getElem?_eq_some_iff.mp e).1
      have ha : ω.α[i]? = some ω.α[i] := List.getElem?_eq_getElem hi
      generalize ω.α[i] = a at ha
      obtain ⟨vs, hx, hb, k⟩ := hw.lockT ha e
      refine ⟨a, .dT vs, hx, trivial, fun od => ?_⟩
      obtain ⟨l1, w1⟩ := k od
      refine ht σ _ _ ⟨_, δ, _, l1.g.trans hg, he.mono l1, w1, ?_⟩
      cases em : m δ (μ.set i (.lkT kvs)) with
      | no => rw [em] at h; exact h.elim
      | ex n ns es μ2 => rw [em] at h; exact h.elim
      | ok d μ2 =>
        rw [em] at h
        dsimp only at h
        split at h
        · rename_i kvs2 e2
          intro v ω' H' l' w' r'
          have hB : ω'.B a = some (.frz od (.dT vs)) := l'.b _ _ upd_same
          obtain ⟨hx', w2⟩ := w'.freeT (l'.a _ _ ha) hB e2
          have nl := nolstT (od := od) (vs := vs)
          refine ⟨hx', h v { ω' with B := del ω'.B a } _ ⟨(l1.trans l').g, fun j c q => l'.a j c q, fun c u q => ?_, (l1.trans l').f⟩ w2 (r'.unl hB nl)⟩
          have hc : c ≠ a := ne_of_none q hb
          show del ω'.B a c = some u
          rw [del_ne hc]
          exact l'.b _ _ (by show upd ω.B a _ c = some u; rw [upd_ne hc]; exact q)
        · exact h.elim
    · exact h.elim
  · exact h.elim
def sLockT (pick : MX) (m : MS) : MS := fun δ μ => match pick δ μ with
  | .ok (.ptr i) _ => (match μ[i]? with
    | some (.dT kvs) => (match m δ (μ.set i (.lkT kvs)) with
      | .nx δ' μ2 => (match μ2[i]? with
        | some (.lkT kvs2) => .nx δ' (μ2.set i (.dT kvs2))
        | _ => .no)
      | .rt d μ2 => (match μ2[i]? with
        | some (.lkT kvs2) => .rt d (μ2.set i (.dT kvs2))
        | _ => .no)
      | .bk δ' μ2 => (match μ2[i]? with
        | some (.lkT kvs2) => .bk δ' (μ2.set i (.dT kvs2))
        | _ => .no)
      | .ct δ' μ2 => (match μ2[i]? with
        | some (.lkT kvs2) => .ct δ' (μ2.set i (.dT kvs2))
        | _ => .no)
      | .ex n ns es δ' μ2 => .ex n ns es δ' μ2
      | .no => .no)
    | _ => .no)
  | _ => .no
theorem sv_lockT {Γ : Gm} {W : WX} {t : TS} {pick : MX} {m : MS} (ht : SV Γ W t m) : SV Γ W (tLock t) (sLockT pick m) := fun D σ H ⟨ω, δ, μ, hg, he, hw, h⟩ => by
  unfold sLockT at h
  split at h
  · rename_i i μ0 ep
    split at h
    · rename_i kvs e
      have hi : i < ω.α.length := by rw [hw.len]; exact (List.getElem?_eq_some_iff.mp e).1
      have ha : ω.α[i]? = some ω.α[i] := List.getElem?_eq_getElem hi
      generalize ω.α[i] = a at ha
      obtain ⟨vs, hx, hb, k⟩ := hw.lockT ha e
      refine ⟨a, .dT vs, hx, trivial, fun od => ?_⟩
      obtain ⟨l1, w1⟩ := k od
      refine ht _ σ _ ⟨_, δ, _, l1.g.trans hg, he.mono l1, w1, ?_⟩
      have nl := nolstT (od := od) (vs := vs)
      have open_ : ∀ {ω' : Wd} {μ2 : Mem} {H' : Hp} {kvs2 : List (List Key × Dt)}, Le { ω with B := upd ω.B a (.frz od (.dT vs)) } ω' → WR ω' μ2 H' → μ2[i]? = some (.lkT kvs2) → H' a = some (.frz od (.dT vs)) ∧ ω'.B a = some (.frz od (.dT vs)) ∧ Le ω { ω' with B := del ω'.B a } ∧ WR { ω' with B := del ω'.B a } (μ2.set i (.dT kvs2)) (upd H' a (.dT vs)) := by
        intro ω' μ2 H' kvs2 l' w' e2
        have hB : ω'.B a = some (.frz od (.dT vs)) := l'.b _ _ upd_same
        obtain ⟨hx', w2⟩ := w'.freeT (l'.a _ _ ha) hB e2
        refine ⟨hx', hB, ⟨(l1.trans l').g, fun j c q => l'.a j c q, fun c u q => ?_, (l1.trans l').f⟩, w2⟩
        have hc : c ≠ a := ne_of_none q hb
        show del ω'.B a c = some u
        rw [del_ne hc]
        exact l'.b _ _ (by show upd ω.B a _ c = some u; rw [upd_ne hc]; exact q)
      have envU : ∀ {ω' : Wd} {σ' : L2.St} {δ' : Env}, ω'.B a = some (.frz od (.dT vs)) → EnvR ω' σ' δ' → EnvR { ω' with B := del ω'.B a } σ' δ' := fun hB r => ⟨r.len, fun i d e => let ⟨v, q, z⟩ := r.at_ i d e; ⟨v, q, z.unl hB nl⟩⟩
      cases em : m δ (μ.set i (.lkT kvs)) with
      | no => rw [em] at h; exact h.elim
      | ex n ns es δ' μ2 =>
        rw [em] at h
        exact fun dd σ' ω' H' l' w' e' x' => h dd σ' ω' H' (l1.trans l') w' e' x'
      | nx δ' μ2 =>
        rw [em] at h
        dsimp only at h
        split at h
        · rename_i kvs2 e2
          intro σ' ω' H' l' w' e'
          obtain ⟨h1, hB, l2, w2⟩ := open_ l' w' e2
          exact ⟨h1, h σ' _ _ l2 w2 (envU hB e')⟩
        · exact h.elim
      | bk δ' μ2 =>
        rw [em] at h
        dsimp only at h
        split at h
        · rename_i kvs2 e2
          intro σ' ω' H' l' w' e'
          obtain ⟨h1, hB, l2, w2⟩ := open_ l' w' e2
          exact ⟨h1, h σ' _ _ l2 w2 (envU hB e')⟩
        · exact h.elim
      | ct δ' μ2 =>
        rw [em] at h
        dsimp only at h
        split at h
        · rename_i kvs2 e2
          intro σ' ω' H' l' w' e'
          obtain ⟨h1, hB, l2, w2⟩ := open_ l' w' e2
          exact ⟨h1, h σ' _ _ l2 w2 (envU hB e')⟩
        · exact h.elim
      | rt d μ2 =>
        rw [em] at h
        dsimp only at h
        split at h
        · rename_i kvs2 e2
          intro v ω' H' l' w' r'
          obtain ⟨h1, hB, l2, w2⟩ := open_ l' w' e2
          exact ⟨h1, h v _ _ l2 w2 (r'.unl hB nl)⟩
        · exact h.elim
    · exact h.elim
  · exact h.elim

/-! ### a dict that is locked while it is walked (K) -/
theorem nolstK {od : Obj} {vs : List (Key × V)} : NoLst (.frz od (.dK vs)) := ⟨fun xs z => (by cases z), fun xs z => (by cases z), fun o xs z => (by cases z), fun f z => (by cases z), fun fs z => (by cases z)⟩
theorem WR.lockK {ω : Wd} {μ : Mem} {H : Hp} {i : Nat} {a : Addr} {kvs : List (Key × Dt)} (w : WR ω μ H) (h : ω.α[i]? = some a) (e : μ[i]? = some (.dK kvs)) : ∃ vs, H a = some (.dK vs) ∧ ω.B a = none ∧ ∀ od : Obj, Le ω { ω with B := upd ω.B a (.frz od (.dK vs)) } ∧ WR { ω with B := upd ω.B a (.frz od (.dK vs)) } (μ.set i (.lk kvs)) (upd H a (.frz od (.dK vs))) := by
  obtain ⟨hb, vs, hx, r⟩ := w.at_ i a _ h e
  refine ⟨vs, hx, hb, fun od => ?_⟩
  have l : Le ω { ω with B := upd ω.B a (.frz od (.dK vs)) } := ⟨rfl, fun _ _ h => h, same_upd hb, rfl⟩
  have hi : i < μ.length := (List.getElem?_eq_some_iff.mp e).1
  refine ⟨l, ⟨same_upd2 w.x, by rw [List.length_set]; exact w.len, w.inj, fun j c o h1 e1 => ?_, same_hid w.fr (w.fa i a h), w.fa, fun c o e1 => ⟨(upd_ne (ne_of_none e1 (w.fa i a h))).trans (w.fb c o e1).1, (w.fb c o e1).2⟩⟩⟩
  have h1 : ω.α[j]? = some c := h1
  by_cases hj : j = i
  · subst hj
    rw [h] at h1
    cases h1
    rw [List.getElem?_set_self hi] at e1
    cases e1
    exact ⟨od, vs, upd_same, upd_same, r.mono l⟩
  · rw [List.getElem?_set_ne (Ne.symm hj)] at e1
    have hne : c ≠ a := fun z => hj (w.inj j i c h1 (by rw [z]; exact h))
    exact (w.at_ j c o h1 e1).move l (upd_ne hne) fun z => (upd_ne hne).trans z
theorem WR.freeK {ω : Wd} {μ : Mem} {H : Hp} {i : Nat} {a : Addr} {od : Obj} {vs : List (Key × V)} {kvs : List (Key × Dt)} (w : WR ω μ H) (h : ω.α[i]? = some a) (hB : ω.B a = some (.frz od (.dK vs))) (e : μ[i]? = some (.lk kvs)) :
    H a = some (.frz od (.dK vs)) ∧ WR { ω with B := del ω.B a } (μ.set i (.dK kvs)) (upd H a (.dK vs)) := by
  obtain ⟨o2, vs2, b2, hx, r⟩ := w.at_ i a _ h e
  rw [hB] at b2
  cases b2
  have hi : i < μ.length := (List.getElem?_eq_some_iff.mp e).1
  have nl := nolstK (od := od) (vs := vs)
  refine ⟨hx, ⟨fun c u q => ?_, by rw [List.length_set]; exact w.len, w.inj, fun j c o h1 e1 => ?_, fun c u q => ?_, w.fa, fun c o e1 => ?_⟩⟩
  · have q : del ω.B a c = some u := q
    by_cases hc : c = a
    · rw [hc, del_same] at q
      cases q
    · rw [del_ne hc] at q
      rw [upd_ne hc]
      exact w.x c u q
  · have h1 : ω.α[j]? = some c := h1
    by_cases hj : j = i
    · subst hj
      rw [h] at h1
      cases h1
      rw [List.getElem?_set_self hi] at e1
      cases e1
      exact ⟨del_same, vs, upd_same, r.unl hB nl⟩
    · rw [List.getElem?_set_ne (Ne.symm hj)] at e1
      have hne : c ≠ a := fun z => hj (w.inj j i c h1 (by rw [z]; exact h))
      exact (w.at_ j c o h1 e1).unl hB nl hne (upd_ne hne)
  · have q : ω.F c = some u := q
    have hc : c ≠ a := ne_of_none q (w.fa i a h)
    rw [upd_ne hc]
    exact w.fr c u q
  · have e1 : ω.F c = some o := e1
    have hc : c ≠ a := ne_of_none e1 (w.fa i a h)
    exact ⟨(del_ne hc).trans (w.fb c o e1).1, (w.fb c o e1).2⟩
def mLockK (pick m : MX) : MX := fun δ μ => match pick δ μ with
  | .ok (.ptr i) _ => (match μ[i]? with
    | some (.dK kvs) => (match m δ (μ.set i (.lk kvs)) with
      | .ok d μ2 => (match μ2[i]? with
        | some (.lk kvs2) => .ok d (μ2.set i (.dK kvs2))
        | _ => .no)
      | _ => .no)
    | _ => .no)
  | _ => .no
theorem ev_lockK {Γ : Gm} {W : WX} {t : TE} {pick m : MX} (ht : EV Γ W t m) : EV Γ W (tLockE t) (mLockK pick m) := fun σ H Q ⟨ω, δ, μ, hg, he, hw, h⟩ => by
  unfold mLockK at h
  split at h
  · rename_i i μ0 ep
    split at h
    · rename_i kvs e
      have hi : i < ω.α.length := by rw [hw.len]; exact (List.getElem?_eq_some_iff.mp e).1
      have ha : ω.α[i]? = some ω.α[i] := List.getElem?_eq_getElem hi
      generalize ω.α[i] = a at ha
      obtain ⟨vs, hx, hb, k⟩ := hw.lockK ha e
      refine ⟨a, .dK vs, hx, trivial, fun od => ?_⟩
      obtain ⟨l1, w1⟩ := k od
      refine ht σ _ _ ⟨_, δ, _, l1.g.trans hg, he.mono l1, w1, ?_⟩
      cases em : m δ (μ.set i (.lk kvs)) with
      | no => rw [em] at h; exact h.elim
      | ex n ns es μ2 => rw [em] at h; exact h.elim
      | ok d μ2 =>
        rw [em] at h
        dsimp only at h
        split at h
        · rename_i kvs2 e2
          intro v ω' H' l' w' r'
          have hB : ω'.B a = some (.frz od (.dK vs)) := l'.b _ _ upd_same
          obtain ⟨hx', w2⟩ := w'.freeK (l'.a _ _ ha) hB e2
          have nl := nolstK (od := od) (vs := vs)
          refine ⟨hx', h v { ω' with B := del ω'.B a } _ ⟨(l1.trans l').g, fun j c q => l'.a j c q, fun c u q => ?_, (l1.trans l').f⟩ w2 (r'.unl hB nl)⟩
          have hc : c ≠ a := ne_of_none q hb
          show del ω'.B a c = some u
          rw [del_ne hc]
          exact l'.b _ _ (by show upd ω.B a _ c = some u; rw [upd_ne hc]; exact q)
        · exact h.elim
    · exact h.elim
  · exact h.elim
def sLockK (pick : MX) (m : MS) : MS := fun δ μ => match pick δ μ with
  | .ok (.ptr i) _ => (match μ[i]? with
    | some (.dK kvs) => (match m δ (μ.set i (.lk kvs)) with
      | .nx δ' μ2 => (match μ2[i]? with
        | some (.lk kvs2) => .nx δ' (μ2.set i (.dK kvs2))
        | _ => .no)
      | .rt d μ2 => (match μ2[i]? with
        | some (.lk kvs2) => .rt d (μ2.set i (.dK kvs2))
        | _ => .no)
      | .bk δ' μ2 => (match μ2[i]? with
        | some (.lk kvs2) => .bk δ' (μ2.set i (.dK kvs2))
        | _ => .no)
      | .ct δ' μ2 => (match μ2[i]? with
        | some (.lk kvs2) => .ct δ' (μ2.set i (.dK kvs2))
        | _ => .no)
      | .ex n ns es δ' μ2 => .ex n ns es δ' μ2
      | .no => .no)
    | _ => .no)
  | _ => .no
theorem sv_lockK {Γ : Gm} {W : WX} {t : TS} {pick : MX} {m : MS} (ht : SV Γ W t m) : SV Γ W (tLock t) (sLockK pick m) := fun D σ H ⟨ω, δ, μ, hg, he, hw, h⟩ => by
  unfold sLockK at h
  split at h
  · rename_i i μ0 ep
    split at h
    · rename_i kvs e
      have hi : i < ω.α.length := by rw [hw.len]; exact (List.getElem?_eq_some_iff.mp e).1
      have ha : ω.α[i]? = some ω.α[i] := List.getElem?_eq_getElem hi
      generalize ω.α[i] = a at ha
      obtain ⟨vs, hx, hb, k⟩ := hw.lockK ha e
      refine ⟨a, .dK vs, hx, trivial, fun od => ?_⟩
      obtain ⟨l1, w1⟩ := k od
      refine ht _ σ _ ⟨_, δ, _, l1.g.trans hg, he.mono l1, w1, ?_⟩
      have nl := nolstK (od := od) (vs := vs)
      have open_ : ∀ {ω' : Wd} {μ2 : Mem} {H' : Hp} {kvs2 : List (Key × Dt)}, Le { ω with B := upd ω.B a (.frz od (.dK vs)) } ω' → WR ω' μ2 H' → μ2[i]? = some (.lk kvs2) → H' a = some (.frz od (.dK vs)) ∧ ω'.B a = some (.frz od (.dK vs)) ∧ Le ω { ω' with B := del ω'.B a } ∧ WR { ω' with B := del ω'.B a } (μ2.set i (.dK kvs2)) (upd H' a (.dK vs)) := by
        intro ω' μ2 H' kvs2 l' w' e2
        have hB : ω'.B a = some (.frz od (.dK vs)) := l'.b _ _ upd_same
        obtain ⟨hx', w2⟩ := w'.freeK (l'.a _ _ ha) hB e2
        refine ⟨hx', hB, ⟨(l1.trans l').g, fun j c q => l'.a j c q, fun c u q => ?_, (l1.trans l').f⟩, w2⟩
        have hc : c ≠ a := ne_of_none q hb
        show del ω'.B a c = some u
        rw [del_ne hc]
        exact l'.b _ _ (by show upd ω.B a _ c = some u; rw [upd_ne hc]; exact q)
      have envU : ∀ {ω' : Wd} {σ' : L2.St} {δ' : Env}, ω'.B a = some (.frz od (.dK vs)) → EnvR ω' σ' δ' → EnvR { ω' with B := del ω'.B a } σ' δ' := fun hB r => ⟨r.len, fun i d e => let ⟨v, q, z⟩ := r.at_ i d e; ⟨v, q, z.unl hB nl⟩⟩
      cases em : m δ (μ.set i (.lk kvs)) with
      | no => rw [em] at h; exact h.elim
      | ex n ns es δ' μ2 =>
        rw [em] at h
        exact fun dd σ' ω' H' l' w' e' x' => h dd σ' ω' H' (l1.trans l') w' e' x'
      | nx δ' μ2 =>
        rw [em] at h
        dsimp only at h
        split at h
        · rename_i kvs2 e2
          intro σ' ω' H' l' w' e'
          obtain ⟨h1, hB, l2, w2⟩ := open_ l' w' e2
          exact ⟨h1, h σ' _ _ l2 w2 (envU hB e')⟩
        · exact h.elim
      | bk δ' μ2 =>
        rw [em] at h
        dsimp only at h
        split at h
        · rename_i kvs2 e2
          intro σ' ω' H' l' w' e'
          obtain ⟨h1, hB, l2, w2⟩ := open_ l' w' e2
          exact ⟨h1, h σ' _ _ l2 w2 (envU hB e')⟩
        · exact h.elim
      | ct δ' μ2 =>
        rw [em] at h
        dsimp only at h
        split at h
        · rename_i kvs2 e2
          intro σ' ω' H' l' w' e'
          obtain ⟨h1, hB, l2, w2⟩ := open_ l' w' e2
          exact ⟨h1, h σ' _ _ l2 w2 (envU hB e')⟩
        · exact h.elim
      | rt d μ2 =>
        rw [em] at h
        dsimp only at h
        split at h
        · rename_i kvs2 e2
          intro v ω' H' l' w' r'
          obtain ⟨h1, hB, l2, w2⟩ := open_ l' w' e2
          exact ⟨h1, h v _ _ l2 w2 (r'.unl hB nl)⟩
        · exact h.elim
    · exact h.elim
  · exact h.elim

theorem RpK.keysT {κ : Type} {ω : Wd} {vs : List (κ × V)} {ds : List (κ × Dt)} (r : RpK ω vs ds) : vs.map (·.1) = ds.map (·.1) := by
  induction r with
  | nil => rfl
  | cons a r ih => rw [List.map_cons, List.map_cons, ih]

/-! ### keys that are tuples -/
def keyL : List Dt → Option (List Key)
  | [] => some []
  | d :: l => match keyD d, keyL l with
    | some k, some ks => some (k :: ks)
    | _, _ => none
def keyT : Dt → Option (List Key)
  | .tup l => keyL l
  | _ => none
theorem keyL_ok {ω : Wd} : ∀ {l : List Dt} {vs : List V} {ks : List Key}, RpL ω vs l → keyL l = some ks → vs = ks.map kV
  | [], _, _, .nil, h => by
    cases h
    rfl
  | d :: l, _, ks, .cons r rs, h => by
    unfold keyL at h
    split at h
    · rename_i k ks e1 e2
      cases h
      rw [List.map_cons, keyD_ok r e1, keyL_ok rs e2]
    · cases h
theorem keyT_ok {ω : Wd} {v : V} {d : Dt} {ks : List Key} (r : Rp ω v d) (h : keyT d = some ks) : ∃ b, v = .ref b ∧ ω.B b = some (.tup (ks.map kV)) := by
  cases r with
  | tup h1 rl =>
    rw [keyL_ok rl h] at h1
    exact ⟨_, rfl, h1⟩
  | _ => cases h
def keyDt : Key → Dt
  | .inl i => .int i
  | .inr s => .str s
theorem keyDt_rp {ω : Wd} (k : Key) : Rp ω (kV k) (keyDt k) := by
  cases k with
  | inl i => exact .int i
  | inr s => exact .str s
theorem keyDt_rpL {ω : Wd} : ∀ ks : List Key, RpL ω (ks.map kV) (ks.map keyDt)
  | [] => .nil
  | k :: ks => .cons (keyDt_rp k) (keyDt_rpL ks)
def valT (kvs : List (List Key × Dt)) (k : List Key) : Option Dt := (kvs.find? fun kv => decide (kv.1 = k)).map (·.2)
def putT (kvs : List (List Key × Dt)) (k : List Key) (v : Dt) : List (List Key × Dt) :=
  if (kvs.any fun kv => decide (kv.1 = k)) = true then kvs.map (fun kv => if kv.1 = k then (kv.1, v) else kv) else kvs ++ [(k, v)]
def dropT (kvs : List (List Key × Dt)) (k : List Key) : List (List Key × Dt) := kvs.filter fun kv => decide (kv.1 ≠ k)
section
variable {ω : Wd} {k : List Key}
theorem RpK.valT {vs : List (List Key × V)} {ds : List (List Key × Dt)} (r : RpK ω vs ds) : (∀ d, DM.valT ds k = some d → ∃ v, valV vs k = some v ∧ Rp ω v d) ∧ (DM.valT ds k = none → valV vs k = none) := by
  induction r with
  | nil => exact ⟨fun d h => (nomatch h), fun _ => rfl⟩
  | @cons j u e vs ds a r ih =>
    unfold DM.valT valV at ih ⊢
    rw [List.find?_cons, List.find?_cons]
    by_cases h : j = k
    · rw [decide_eq_true h]
      exact ⟨fun d q => (by cases q; exact ⟨u, rfl, a⟩), fun q => (nomatch q)⟩
    · rw [decide_eq_false h]
      exact ih
theorem RpK.anyT {vs : List (List Key × V)} {ds : List (List Key × Dt)} (r : RpK ω vs ds) : (vs.any fun kv => decide (kv.1 = k)) = ds.any fun kv => decide (kv.1 = k) := by
  induction r with
  | nil => rfl
  | cons a r ih => rw [List.any_cons, List.any_cons, ih]
theorem RpK.appT {vs ws : List (List Key × V)} {ds es : List (List Key × Dt)} (r : RpK ω vs ds) (q : RpK ω ws es) : RpK ω (vs ++ ws) (ds ++ es) := by
  induction r with
  | nil => exact q
  | cons a r ih => exact .cons a ih
theorem RpK.mapPutT {v : V} {d : Dt} (hv : Rp ω v d) {vs : List (List Key × V)} {ds : List (List Key × Dt)} (r : RpK ω vs ds) : RpK ω (vs.map fun kv => if kv.1 = k then (kv.1, v) else kv) (ds.map fun kv => if kv.1 = k then (kv.1, d) else kv) := by
  induction r with
  | nil => exact .nil
  | @cons j u e vs ds a r ih =>
    rw [List.map_cons, List.map_cons]
    by_cases h : j = k
    · rw [if_pos h, if_pos h]
      exact .cons hv ih
    · rw [if_neg h, if_neg h]
      exact .cons a ih
theorem RpK.putT {v : V} {d : Dt} (hv : Rp ω v d) {vs : List (List Key × V)} {ds : List (List Key × Dt)} (r : RpK ω vs ds) : RpK ω (putK vs k v) (DM.putT ds k d) := by
  unfold putK DM.putT
  rw [r.anyT]
  split
  · exact r.mapPutT hv
  · exact r.appT (.cons hv .nil)
theorem RpK.dropT {vs : List (List Key × V)} {ds : List (List Key × Dt)} (r : RpK ω vs ds) : RpK ω (dropK vs k) (DM.dropT ds k) := by
  unfold dropK DM.dropT
  induction r with
  | nil => exact .nil
  | @cons j u e vs ds a r ih =>
    by_cases h : j = k
    · rw [List.filter_cons, List.filter_cons]
      simp only [h, ne_eq, not_true_eq_false, decide_false, Bool.false_eq_true, if_false]
      exact ih
    · rw [List.filter_cons, List.filter_cons]
      simp only [h, ne_eq, not_false_eq_true, decide_true, if_true]
      exact .cons a ih
end
/-- the dict by tuples that a value tells: to be read, to be written -/
def asQ (μ : Mem) : Dt → Option (List (List Key × Dt))
  | .ptr i => match μ[i]? with
    | some (.dT kvs) => some kvs
    | some (.lkT kvs) => some kvs
    | _ => none
  | _ => none
def asQw (μ : Mem) : Dt → Option (List (List Key × Dt))
  | .ptr i => match μ[i]? with
    | some (.dT kvs) => some kvs
    | _ => none
  | _ => none
theorem asQ_ok {ω : Wd} {μ : Mem} {H : Hp} {x : V} {d : Dt} {kvs : List (List Key × Dt)} (w : WR ω μ H) (r : Rp ω x d) (h : asQ μ d = some kvs) : ∃ (a : Addr) (vs : List (List Key × V)), x = .ref a ∧ Rd H a (.dT vs) ∧ RpK ω vs kvs := by
  cases r with
  | ptr h1 =>
    rename_i i a
    unfold asQ at h
    dsimp only at h
    split at h
    · rename_i ks e
      cases h
      obtain ⟨hb, vs, hx, rk⟩ := w.at_ i a _ h1 e
      exact ⟨a, vs, rfl, .inl hx, rk⟩
    · rename_i ks e
      cases h
      obtain ⟨o, vs, _, hx, rk⟩ := w.at_ i a _ h1 e
      exact ⟨a, vs, rfl, .inr ⟨o, hx⟩, rk⟩
    · cases h
  | _ => cases h
theorem asQw_ok {ω : Wd} {μ : Mem} {H : Hp} {x : V} {d : Dt} {kvs : List (List Key × Dt)} (w : WR ω μ H) (r : Rp ω x d) (h : asQw μ d = some kvs) : ∃ (i : Nat) (a : Addr) (vs : List (List Key × V)), d = .ptr i ∧ x = .ref a ∧ ω.α[i]? = some a ∧ ω.B a = none ∧ H a = some (.dT vs) ∧ RpK ω vs kvs := by
  cases r with
  | ptr h1 =>
    rename_i i a
    unfold asQw at h
    dsimp only at h
    split at h
    · rename_i ks e
      cases h
      obtain ⟨hb, vs, hx, rk⟩ := w.at_ i a _ h1 e
      exact ⟨i, a, vs, rfl, rfl, h1, hb, hx, rk⟩
    · cases h
  | _ => cases h
section
variable {Γ : Gm} {W : WX} {K : PySem.W.Frag} {ta tb tc : TE} {ma mb mc : MX}
/-- {} -/
def mTNew : MX := fun _ μ => .ok (.ptr μ.length) (μ ++ [.dT []])
theorem ev_tnew : EV Γ W tDNewT mTNew := fun σ H Q ⟨ω, δ, μ, hg, he, hw, h⟩ p hp => by
  obtain ⟨l2, w2, e2⟩ := hw.newM (u := .dT []) (o := .dT []) hp ⟨hw.x.free hp, [], upd_same, .nil⟩
  exact h _ _ _ l2 w2 (.ptr e2)
theorem getT_ok {ω : Wd} {μ : Mem} {H : Hp} {x y : V} {a b : Dt} {k : List Key} {kvs : List (List Key × Dt)} (w : WR ω μ H) (r1 : Rp ω x a) (r2 : Rp ω y b) (e2 : keyT b = some k) (e1 : asQ μ a = some kvs) : ∃ p vs, x = .ref p ∧ DGet H p y (valV vs k) ∧ RpK ω vs kvs := by
  obtain ⟨p, vs, rfl, hx, rk⟩ := asQ_ok w r1 e1
  obtain ⟨c, rfl, hc⟩ := keyT_ok r2 e2
  exact ⟨p, vs, rfl, .inr ⟨vs, k, c, hx, rfl, w.x _ _ hc, rfl⟩, rk⟩
/-- d[k] -/
def oTGet (a b : Dt) (μ : Mem) : R Dt := match asQ μ a, keyT b with
  | some kvs, some k => (match valT kvs k with
    | some d => .ok d μ
    | none => .no)
  | _, _ => .no
theorem ev_tget (ha : EV Γ W ta ma) (hb : EV Γ W tb mb) : EV Γ W (tDGet ta tb) (mOp oTGet ma mb) := fun σ H Q ⟨ω, δ, μ, hg, he, hw, h⟩ =>
  ha σ H _ ⟨ω, δ, μ, hg, he, hw, h.split fun a μ1 x ω1 H1 l1 w1 r1 h1 => hb σ H1 _ ⟨ω1, δ, μ1, l1.g.trans hg, he.mono l1, w1, GoE.split (f := fun y μ2 => oTGet a y μ2) h1 fun b μ2 y ω2 H2 l2 w2 r2 h2 => by
    unfold oTGet at h2
    split at h2
    · rename_i kvs k e1 e2
      split at h2
      · rename_i d e3
        obtain ⟨p, vs, rfl, g, rk⟩ := getT_ok w2 (r1.mono l2) r2 e2 e1
        obtain ⟨v, hv, rv⟩ := (rk.valT (k := k)).1 d e3
        rw [hv] at g
        exact ⟨p, v, rfl, g, h2.ok w2 rv⟩
      · exact h2.elim
    · exact h2.elim⟩⟩
/-- k in d -/
def oTIn (neg : Bool) (a b : Dt) (μ : Mem) : R Dt := match keyT a, asQ μ b with
  | some k, some kvs => .ok (.bl (neg ^^ (valT kvs k).isSome)) μ
  | _, _ => .no
theorem some_same {ω : Wd} {k : List Key} {vs : List (List Key × V)} {ds : List (List Key × Dt)} (r : RpK ω vs ds) : (valV vs k).isSome = (valT ds k).isSome := by
  cases e : valT ds k with
  | none =>
    rw [(r.valT (k := k)).2 e]
    rfl
  | some d =>
    obtain ⟨v, hv, _⟩ := (r.valT (k := k)).1 d e
    rw [hv]
    rfl
theorem ev_tin (ha : EV Γ W ta ma) (hb : EV Γ W tb mb) : EV Γ W (tDIn ta tb) (mOp (oTIn false) ma mb) := fun σ H Q ⟨ω, δ, μ, hg, he, hw, h⟩ =>
  ha σ H _ ⟨ω, δ, μ, hg, he, hw, h.split fun a μ1 x ω1 H1 l1 w1 r1 h1 => hb σ H1 _ ⟨ω1, δ, μ1, l1.g.trans hg, he.mono l1, w1, GoE.split (f := fun y μ2 => oTIn false a y μ2) h1 fun b μ2 y ω2 H2 l2 w2 r2 h2 => by
    unfold oTIn at h2
    split at h2
    · rename_i k kvs e1 e2
      obtain ⟨p, vs, ey, g, rk⟩ := getT_ok w2 r2 (r1.mono l2) e1 e2
      exact ⟨p, _, ey, g, by rw [some_same rk]; exact h2.ok w2 (by rw [Bool.false_xor]; exact .bl _)⟩
    · exact h2.elim⟩⟩
theorem ev_tnin (ha : EV Γ W ta ma) (hb : EV Γ W tb mb) : EV Γ W (tDNotIn ta tb) (mOp (oTIn true) ma mb) := fun σ H Q ⟨ω, δ, μ, hg, he, hw, h⟩ =>
  ha σ H _ ⟨ω, δ, μ, hg, he, hw, h.split fun a μ1 x ω1 H1 l1 w1 r1 h1 => hb σ H1 _ ⟨ω1, δ, μ1, l1.g.trans hg, he.mono l1, w1, GoE.split (f := fun y μ2 => oTIn true a y μ2) h1 fun b μ2 y ω2 H2 l2 w2 r2 h2 => by
    unfold oTIn at h2
    split at h2
    · rename_i k kvs e1 e2
      obtain ⟨p, vs, ey, g, rk⟩ := getT_ok w2 r2 (r1.mono l2) e1 e2
      exact ⟨p, _, ey, g, by rw [some_same rk]; exact h2.ok w2 (by rw [Bool.true_xor]; exact .bl _)⟩
    · exact h2.elim⟩⟩
/-- d.get(k, e) -/
def mTGet2 (a b c : MX) : MX := fun δ μ => (a δ μ).bind fun x μ1 => if (asQ μ1 x).isSome = true then (b δ μ1).bind fun y μ2 => (c δ μ2).bind fun z μ3 => (match asQ μ3 x, keyT y with
  | some kvs, some k => .ok ((valT kvs k).getD z) μ3
  | _, _ => .no) else .no
theorem ev_tget2 (ha : EV Γ W ta ma) (hb : EV Γ W tb mb) (hc : EV Γ W tc mc) : EV Γ W (tDGet2 ta tb tc) (mTGet2 ma mb mc) := fun σ H Q ⟨ω, δ, μ, hg, he, hw, h⟩ =>
  ha σ H _ ⟨ω, δ, μ, hg, he, hw, h.split fun a μ1 x ω1 H1 l1 w1 r1 h1 => by
    split at h1
    · rename_i hs
      cases e0 : asQ μ1 a with
      | none =>
        rw [e0] at hs
        cases hs
      | some kvs0 =>
        obtain ⟨p, vs0, rfl, hx, rk0⟩ := asQ_ok w1 r1 e0
        refine ⟨p, rfl, .inr ⟨vs0, hx⟩, hb σ H1 _ ⟨ω1, δ, μ1, l1.g.trans hg, he.mono l1, w1, h1.split fun b μ2 y ω2 H2 l2 w2 r2 h2 => hc σ H2 _ ⟨ω2, δ, μ2, l2.g.trans (l1.g.trans hg), (he.mono l1).mono l2, w2, GoE.split (f := fun z μ3 => match asQ μ3 a, keyT b with
          | some kvs, some k => .ok ((valT kvs k).getD z) μ3
          | _, _ => .no) h2 fun c μ3 z ω3 H3 l3 w3 r3 h3 => ?_⟩⟩⟩
        split at h3
        · rename_i kvs k e1 e2
          obtain ⟨p', vs, ex, g, rk⟩ := getT_ok w3 ((r1.mono l2).mono l3) (r2.mono l3) e2 e1
          cases ex
          refine ⟨valV vs k, g, ?_⟩
          cases e : valT kvs k with
          | none =>
            rw [(rk.valT (k := k)).2 e]
            rw [e] at h3
            exact h3.ok w3 r3
          | some d =>
            obtain ⟨v, hv, rv⟩ := (rk.valT (k := k)).1 d e
            rw [hv]
            rw [e] at h3
            exact h3.ok w3 rv
        · exact h3.elim
    · exact h1.elim⟩
/-- d[k] = v -/
def stPutT (δ : Env) (y x z : Dt) (μ : Mem) : O := match x, asQw μ x, keyT z with
  | .ptr i, some kvs, some k => if kvs.length ≤ 1000000 then .nx δ (μ.set i (.dT (putT kvs k y))) else .no
  | _, _, _ => .no
def sTPutM (v d k : MX) : MS := fun δ μ => (v δ μ).thn δ fun y μ1 => (d δ μ1).thn δ fun x μ2 => (k δ μ2).thn δ fun z μ3 => stPutT δ y x z μ3
theorem sv_tput (hv : EV Γ W tc mc) (hd : EV Γ W ta ma) (hk : EV Γ W tb mb) : SV Γ W (sDPut ta tb tc) (sTPutM mc ma mb) := fun D σ H ⟨ω, δ, μ, hg, he, hw, h⟩ =>
  hv σ H _ ⟨ω, δ, μ, hg, he, hw, GoE.splitS (f := fun y μ1 => (ma δ μ1).thn δ fun x μ2 => (mb δ μ2).thn δ fun z μ3 => stPutT δ y x z μ3) he h fun y μ1 v ω1 H1 l1 w1 r1 h1 => hd σ H1 _ ⟨ω1, δ, μ1, l1.g.trans hg, he.mono l1, w1, GoE.splitS (f := fun x μ2 => (mb δ μ2).thn δ fun z μ3 => stPutT δ y x z μ3) (he.mono l1) h1 fun x μ2 u ω2 H2 l2 w2 r2 h2 => hk σ H2 _ ⟨ω2, δ, μ2, l2.g.trans (l1.g.trans hg), (he.mono l1).mono l2, w2, GoE.splitS (f := fun z μ3 => stPutT δ y x z μ3) ((he.mono l1).mono l2) h2 fun z μ3 w ω3 H3 l3 w3 r3 h3 => by
    unfold stPutT at h3
    split at h3
    · rename_i i kvs k e2 e1
      split at h3
      · rename_i hl
        obtain ⟨i', p, vs, ei, rfl, hα, hB, hx, rk⟩ := asQw_ok w3 (r2.mono l3) e1
        cases ei
        obtain ⟨c, rfl, hc0⟩ := keyT_ok r3 e2
        have hc : kvs.length < sizeLine := Nat.lt_of_le_of_lt hl (show 1000000 < sizeLine by decide)
        refine ⟨p, _, rfl, .inr ⟨vs, k, c, hx, rfl, w3.x _ _ hc0, by rw [rk.len]; exact hc, rfl⟩, ?_⟩
        exact h3 σ ω3 _ (Le.refl _) (w3.put hα hB ⟨hB, _, upd_same, rk.putT ((r1.mono l2).mono l3)⟩) (((he.mono l1).mono l2).mono l3)
      · exact h3.elim
    · exact h3.elim⟩⟩⟩
/-- d.pop(k, e) -/
def bTPop (a : Dt) (ds : List Dt) (μ : Mem) : R Dt := match a, asQw μ a, ds with
  | .ptr i, some kvs, [y, z] => (match keyT y with
    | some k => (match valT kvs k with
      | some d => .ok d (μ.set i (.dT (dropT kvs k)))
      | none => .ok z μ)
    | none => .no)
  | _, _, _ => .no
theorem rm_tpop : RM DX.rPopT bTPop := fun W ω σ μ H x a xs ds Q w ra r h => by
  unfold bTPop at h
  split at h
  · rename_i i kvs y z e
    split at h
    · rename_i k ek
      obtain ⟨i', p, vs, ei, rfl, hα, hB, hx, rk⟩ := asQw_ok w ra e
      cases ei
      obtain ⟨vy, vz, rfl, ry, rz⟩ := r.two
      obtain ⟨c, rfl, hc⟩ := keyT_ok ry ek
      refine ⟨p, vs, k, c, vz, rfl, rfl, hx, w.x _ _ hc, fun v hv => ?_, fun hv => ?_⟩
      · cases ev : valT kvs k with
        | none =>
          rw [(rk.valT (k := k)).2 ev] at hv
          cases hv
        | some d =>
          rw [ev] at h
          obtain ⟨v2, hv2, rv⟩ := (rk.valT (k := k)).1 d ev
          rw [hv] at hv2
          cases hv2
          exact h v ω _ (Le.refl _) (w.put hα hB ⟨hB, _, upd_same, rk.dropT⟩) rv
      · cases ev : valT kvs k with
        | none =>
          rw [ev] at h
          exact h vz ω _ (Le.refl _) w rz
        | some d =>
          obtain ⟨v2, hv2, rv⟩ := (rk.valT (k := k)).1 d ev
          rw [hv] at hv2
          cases hv2
    · exact h.elim
  · exact h.elim
theorem k_tpop {X : Cx} (hu : X.A.units + 1 < cLine) : MtR X "dict.pop" DX.rPopT := DX.mt_popT hu
/-- len(d) -/
theorem k_lenT {X : Cx} : CallR X (.builtin "len") rLenT := call_len_dT
def cLenT (ds : List Dt) (μ : Mem) : R Dt := match ds with
  | [d] => (match asQw μ d with
    | some kvs => .ok (.int kvs.length) μ
    | none => .no)
  | _ => .no
theorem rc_lenT : RC Γ rLenT cLenT := fun W ω σ μ H xs ds Q hg w r h => by
  unfold cLenT at h
  split at h
  · rename_i d
    split at h
    · rename_i kvs e
      obtain ⟨x, rfl, rx⟩ := r.one
      obtain ⟨i, a, vs, rfl, rfl, _, _, hx, rk⟩ := asQw_ok w rx e
      exact ⟨a, vs, rfl, hx, by rw [rk.len]; exact h.ok w (.int _)⟩
    · exact h.elim
  · exact h.elim
/-! ### walks over a locked dict -/
def miKeysT (a : MX) : MI := fun δ μ => (a δ μ).bind fun x μ1 => match x with
  | .ptr i => (match μ1[i]? with
    | some (.lkT kvs) => .ok (kvs.map fun kv => Dt.tup (kv.1.map keyDt), some (i, MO.lkT kvs)) μ1
    | _ => .no)
  | _ => .no
theorem iv_keysT (ha : EV Γ W ta ma) : IV Γ W (iKeys ta) (miKeysT ma) := fun σ H Q ⟨ω, δ, μ, hg, he, hw, h⟩ =>
  ha σ H _ ⟨ω, δ, μ, hg, he, hw, GoE.split (f := fun x μ1 => match x with
    | .ptr i => (match μ1[i]? with
      | some (.lkT kvs) => .ok (kvs.map fun kv => Dt.tup (kv.1.map keyDt), some (i, MO.lkT kvs)) μ1
      | _ => .no)
    | _ => .no) h fun x μ1 v ω1 H1 l1 w1 r1 h1 => by
    cases r1 with
    | ptr hb =>
      rename_i i a
      dsimp only at h1
      split at h1
      · rename_i kvs e
        obtain ⟨o, vs, b1, hx, rk⟩ := w1.at_ _ _ _ hb e
        refine ⟨a, o, rfl, .inr ⟨vs, hx, h1 _ ω1 H1 (Le.refl _) w1 ?_⟩⟩
        intro j ω2 μ2 H2 l2 w2 hok
        have hx2 : H2 a = some (.frz o (.dT vs)) := w2.x _ _ (l2.b _ _ b1)
        have hlen : vs.length = kvs.length := rk.len
        refine ⟨fun hj => ⟨hx2, by rw [hlen]; simpa using hj⟩, fun d hd => ?_⟩
        have hj : j < kvs.length := by
          have := (List.getElem?_eq_some_iff.mp hd).1
          simpa using this
        refine ⟨⟨hx2, by rw [hlen]; exact hj⟩, fun x H3 hy => ?_⟩
        obtain ⟨rfl, k, vv, q, ek, rfl, hq⟩ := hy
        obtain ⟨ω3, l3, w3, b3⟩ := w2.knowT hq
        refine ⟨ω3, l3, w3, ?_⟩
        have hk : kvs[j]?.map (·.1) = some k := by
          have z := congrArg (fun l => l[j]?) rk.keysT
          simp only [List.getElem?_map] at z
          rw [← z, ek]
          rfl
        rw [List.getElem?_map] at hd
        obtain ⟨kv, ekv, rfl⟩ := Option.map_eq_some_iff.mp hd
        rw [ekv] at hk
        cases hk
        exact .tup b3 (keyDt_rpL _)
      · exact h1.elim
    | _ => exact h1.elim⟩
end
/-! ### in a tuple of anything -/
def rInT (K : PySem.W.Frag) (neg : Bool) : R2 := fun x y H Q => ∃ d ds, Dp K H x d ∧ Dp K H y (.tuple ds) ∧ SeqAt.shaped d = true ∧ SeqAt.shaped (.tuple ds) = true ∧ Q (.bl (neg ^^ ds.any fun z => PyData.eqv z d)) H
theorem hu65 {A : Around} {k : Nat} (hr : Room k A) : A.units + 65 < cLine := by
  have := hr.un
  omega
theorem op_inT {X : Cx} {K : PySem.W.Frag} (hK : X.K = K) (hu : X.A.units + 65 < cLine) : OpR X (compareOp .In) (rInT K false) := by
  subst hK
  intro pins s σ H x y v u Q I rx ry h
  obtain ⟨d, ds, hd, he, sd, se, q⟩ := h
  obtain ⟨as, r1⟩ := Dp.reads I d x v hd rx
  obtain ⟨bs, r2⟩ := Dp.reads I (.tuple ds) y u he ry
  rw [Bool.false_xor] at q
  exact SeqAt.in_tuple_reads r2 r1 (SeqAt.canLay_of_shaped se) (SeqAt.canLay_of_shaped sd) (room_in_shaped sd hu) ⟨.bl _, H, I, rfl, q⟩
theorem op_notInT {X : Cx} {K : PySem.W.Frag} (hK : X.K = K) (hu : X.A.units + 65 < cLine) : OpR X (compareOp .NotIn) (rInT K true) := by
  subst hK
  intro pins s σ H x y v u Q I rx ry h
  obtain ⟨d, ds, hd, he, sd, se, q⟩ := h
  obtain ⟨as, r1⟩ := Dp.reads I d x v hd rx
  obtain ⟨bs, r2⟩ := Dp.reads I (.tuple ds) y u he ry
  rw [Bool.true_xor] at q
  exact SeqAt.notIn_tuple_reads r2 r1 (SeqAt.canLay_of_shaped se) (SeqAt.canLay_of_shaped sd) (room_in_shaped sd hu) ⟨.bl _, H, I, rfl, q⟩
def oInT (neg : Bool) (a b : Dt) (μ : Mem) : R Dt := match toPM μ 8 a, toPM μ 8 b with
  | some p, some (.tuple ds) => if SeqAt.shaped p = true ∧ SeqAt.shaped (.tuple ds) = true then .ok (.bl (neg ^^ ds.any fun z => PyData.eqv z p)) μ else .no
  | _, _ => .no
theorem ro_inT {Γ : Gm} {neg : Bool} : RO Γ (rInT Γ.K neg) (oInT neg) := fun W ω σ μ H x y a b Q hg w ra rb h => by
  unfold oInT at h
  split at h
  · rename_i p ds e1 e2
    split at h
    · rename_i hs
      obtain ⟨h1, h2, h3⟩ := toPM_dp (K := Γ.K) (by rw [hg]) w 8 a p x e1 ra
      obtain ⟨k1, k2, k3⟩ := toPM_dp (K := Γ.K) (by rw [hg]) w 8 b _ y e2 rb
      exact ⟨p, ds, h1, k1, hs.1, hs.2, h.ok w (.bl _)⟩
    · exact h.elim
  · exact h.elim
/-- a written tuple -/
theorem ev_ktp {Γ : Gm} {W : WX} {n : Nat} {xs : List V} {ds : List Dt} (h : KTup Γ.K (Γ.c n) xs) (r : ∀ ω : Wd, RpL ω xs ds) : EV Γ W (tC (.ref (Γ.c n))) (mC (.ktp ds)) := ev_c fun ω hg => by
  subst hg
  exact .ktp h (r ω)
end DM

set_option linter.all false
set_option maxRecDepth 100000
set_option maxHeartbeats 4000000
/-! DMH: except A: without a name; sorted(d) of a dict whose keys are tuples of texts. -/
namespace DM
open PySem PySem.Spec PyProof.Rows L2
def sTryO (cq : Nat → Option Bool) (b s : MS) : MS := fun δ μ => match b δ μ with
  | .ex n ns es δ' μ' => match cq n with
    | some true => (match s δ' μ' with
      | .ex _ _ _ _ _ => .no
      | o => o)
    | some false => .ex n ns es δ' μ'
    | none => .no
  | o => o
section
variable {Γ : Gm} {W : WX} {K : PySem.W.Frag}
theorem sv_tryO {cv : Value} {cq : Nat → Option Bool} {tb : WX → TS} {ts : Addr → Value → Option Addr → TS} {b s : MS} (hq : ∀ n k, cq n = some k → PySem.W.exmOne K (.ref (Γ.c n)) cv = some k) (hb : ∀ W, SV Γ W (tb W) b) (hs : ∀ a cls d, SV Γ W0 (ts a cls d) s) :
    SV Γ W (fun D σ H => tb (wOnly K cv ts W D) D σ H) (sTryO cq b s) := fun D σ H ⟨ω, δ, μ, hg, he, hw, h⟩ => hb _ D σ H ⟨ω, δ, μ, hg, he, hw, by
  unfold sTryO at h
  cases eb : b δ μ with
  | nx δ' μ' => rw [eb] at h; exact h
  | rt d μ' => rw [eb] at h; exact h
  | bk δ' μ' => rw [eb] at h; exact h
  | ct δ' μ' => rw [eb] at h; exact h
  | no => rw [eb] at h; exact h
  | ex n ns es δ' μ' =>
    rw [eb] at h
    intro dd σ' ω' H' l w e x
    cases ec : cq n with
    | none =>
      simp only [ec] at h
      exact h.elim
    | some k =>
      simp only [ec] at h
      refine ⟨k, by rw [hg]; exact hq n k ec, fun hk a na => ?_, fun hk => ?_⟩
      · subst hk
        refine hs _ _ _ _ _ _ ⟨ω', δ', μ', l.g.trans hg, e, w, ?_⟩
        have h : GoS W ω (match s δ' μ' with
          | .ex _ _ _ _ _ => .no
          | o => o) D := h
        have h := GoS.mono h l
        revert h
        cases s δ' μ' with
        | nx δ2 μ2 => exact fun h => h
        | bk δ2 μ2 => exact fun h => h
        | ct δ2 μ2 => exact fun h => h
        | rt d μ2 => exact fun h => h
        | ex n ns es δ2 μ2 => exact fun h => h.elim
        | no => exact fun h => h.elim
      · subst hk
        exact h dd σ' ω' H' l w e x⟩
end
theorem sTryO_ap {cq : Nat → Option Bool} {b s : MS} {δ : Env} {μ : Mem} : sTryO cq b s δ μ = (match b δ μ with
  | .ex n ns es δ' μ' => match cq n with
    | some true => (match s δ' μ' with
      | .ex _ _ _ _ _ => .no
      | o => o)
    | some false => .ex n ns es δ' μ'
    | none => .no
  | o => o) := rfl
/-! ### tuples of texts in their order -/
def kdT (k : List Str) : List (Int ⊕ List Nat) := k.map fun x => Sum.inr x.cps.toList
theorem kdT_inj : ∀ {x y : List Str}, kdT x = kdT y → x = y
  | [], [], _ => rfl
  | [], _ :: _, h => by cases h
  | _ :: _, [], h => by cases h
  | a :: x, b :: y, h => by
    unfold kdT at h
    rw [List.map_cons, List.map_cons] at h
    injection h with h1 h2
    injection h1 with h1
    rw [kdT_inj (x := x) (y := y) h2, Str.ext' (Array.toList_inj.mp h1)]
def leT (x y : List Str) : Bool := !lexLt itemOrd (kdT y) (kdT x)
theorem leT_kle {x y : List Str} : leT x y = true ↔ (listOrd itemOrd).kle (kdT x) (kdT y) := by
  unfold leT KeyOrd.kle
  rw [Bool.not_eq_true']
theorem leT_trans {x y z : List Str} (h : leT x y = true) (k : leT y z = true) : leT x z = true := leT_kle.mpr (KeyOrd.kle_trans (leT_kle.mp h) (leT_kle.mp k))
theorem leT_total (x y : List Str) : (leT x y || leT y x) = true := by
  rw [Bool.or_eq_true]
  cases h : lexLt itemOrd (kdT y) (kdT x) with
  | false => exact .inl (by unfold leT; rw [h]; rfl)
  | true => exact .inr (leT_kle.mpr (KeyOrd.kle_of_klt (O := listOrd itemOrd) h))
theorem leT_anti {x y : List Str} (h : leT x y = true) (k : leT y x = true) : x = y := kdT_inj ((listOrd itemOrd).total _ _ (leT_kle.mp k) (leT_kle.mp h))
def sortTT (l : List (List Str)) : List (List Str) := l.mergeSort leT
theorem sortTT_perm (l : List (List Str)) : (sortTT l).Perm l := List.mergeSort_perm l leT
theorem sortTT_pw (l : List (List Str)) : (sortTT l).Pairwise fun x y => leT x y = true := List.pairwise_mergeSort (le := leT) (fun x y z h k => leT_trans (x := x) (y := y) (z := z) h k) (fun x y => leT_total x y) l
theorem sortTT_eq {l m : List (List Str)} (p : l.Perm m) (h : l.Pairwise fun x y => leT x y = true) : l = sortTT m :=
  List.Perm.eq_of_pairwise (le := fun x y => leT x y = true) (fun x y _ _ h k => leT_anti h k) h (sortTT_pw m) (p.trans (sortTT_perm m).symm)
/-- of two that begin alike the second tells -/
theorem leT_two {n x y : Str} (h : leT [n, x] [n, y] = true) : ltS x y = true := by
  unfold leT kdT at h
  rw [Bool.not_eq_true', List.map_cons, List.map_cons, List.map_cons, List.map_cons, lex_self] at h
  obtain ⟨h1, _⟩ := lex_false.mp h
  unfold ltS
  rw [Bool.not_eq_true']
  exact h1
/-! ### sorted(d) -/
open PyProof.Rows.G in
theorem keyC_of {h : Heap} {shape : Nat → Bool} {a : Addr} {o : Obj} {xs : Array Value} {n : Nat} {l : List (Int ⊕ List Nat)} (ho : h.get? a = some o) (hc : o.cls = .type "tuple") (hd : o.data = .seq xs n)
    (hi : tupItems shape 0 xs.toList = some l) : tupKeyC h shape (.ref a) = some l := by
  unfold tupKeyC
  have e1 : isTupObj h (.ref a) = true := by simp [isTupObj, ho, hc]
  rw [if_pos e1]
  simp only [tupKey, ho, hd]
  exact hi
theorem items_strs : ∀ {us : List Value} {k : List Str} (i : Nat), StrsAre us k → tupItems (fun _ => true) i us = some (kdT k)
  | _, _, i, .nil => by simp [tupItems, kdT]
  | _, _, i, .cons x t r => by
    simp only [tupItems, if_true, items_strs (i + 1) r, Option.map_some, kdT, List.map_cons]
/-- a tuple of texts in a heap -/
def TupS (h : Heap) (b : Addr) (k : List Str) : Prop := ∃ o its n, h.get? b = some o ∧ o.cls = .type "tuple" ∧ o.data = .seq its n ∧ StrsAre its.toList k
theorem TupS.key {h : Heap} {b : Addr} {k : List Str} (t : TupS h b k) : G.tupKeyC h (fun _ => true) (.ref b) = some (kdT k) := by
  obtain ⟨o, its, n, h1, h2, h3, h4⟩ := t
  exact keyC_of h1 h2 h3 (items_strs 0 h4)
theorem TupS.of {h : Heap} {b : Addr} {k : List Str} (t : TupS h b k) (ne : k ≠ []) : ∃ f, TupOf h (fun _ => true) (.ref b) f := by
  obtain ⟨o, its, n, h1, h2, h3, h4⟩ := t
  cases e : its.toList with
  | nil =>
    rw [e] at h4
    cases h4
    exact absurd rfl ne
  | cons f r =>
    rw [e] at h4
    cases h4 with
    | cons x t r' => exact ⟨_, b, o, its, n, rfl, h1, h2, h3, by rw [← Array.getElem?_toList, e]; rfl, fun z => (nomatch z), fun _ => ⟨_, _, rfl⟩⟩
theorem tupsOf {h : Heap} : ∀ {bs : List Addr}, (∀ b ∈ bs, ∃ f, TupOf h (fun _ => true) (.ref b) f) → ∃ fs, TupsOf h (fun _ => true) (bs.map Value.ref) fs
  | [], _ => ⟨[], .nil⟩
  | b :: bs, h => by
    obtain ⟨f, e⟩ := h b List.mem_cons_self
    obtain ⟨fs, r⟩ := tupsOf (bs := bs) fun c hc => h c (List.mem_cons_of_mem _ hc)
    exact ⟨f :: fs, .cons e r⟩
def unS : V → Str
  | .str x => x
  | _ => default
/-- what stands at b -/
def keyS (H : Hp) (b : Addr) : List Str := match H b with
  | some (.tup vs) => vs.map unS
  | _ => []
theorem keyS_of {H : Hp} {b : Addr} {k : List Str} (h : H b = some (.tup (k.map V.str))) : keyS H b = k := by
  unfold keyS
  rw [h]
  dsimp only
  rw [List.map_map]
  exact List.map_id k
theorem refs_of : ∀ {us : List Value}, (∀ u ∈ us, ∃ b : Addr, u = .ref b) → ∃ bs : List Addr, us = bs.map Value.ref
  | [], _ => ⟨[], rfl⟩
  | u :: us, h => by
    obtain ⟨b, rfl⟩ := h _ List.mem_cons_self
    obtain ⟨bs, rfl⟩ := refs_of (us := us) fun x hx => h x (List.mem_cons_of_mem _ hx)
    exact ⟨b :: bs, rfl⟩
def rSortKT : List V → Hp → VK → Prop := fun xs H Q => ∃ (a : Addr) (kvs : List (List Key × V)) (ks : List (List Str)), xs = [.ref a] ∧ Rd H a (.dT kvs) ∧ kvs.map (·.1) = ks.map (List.map Sum.inr) ∧ (∀ k ∈ ks, k ≠ []) ∧ ks.length < 64 ∧
  ∀ (bs : List Addr) (p : Addr), H p = none → bs.map (keyS H) = sortTT ks → (∀ b ∈ bs, H b = some (.tup ((keyS H b).map V.str))) → Q (.ref p) (upd H p (.lst (bs.map V.ref)))
theorem keys_kt {H : Hp} : ∀ {kvs : List (List Key × V)} {xs : List (List Key × Addr × Value)} {ks : List (List Str)}, KT H kvs xs → kvs.map (·.1) = ks.map (List.map Sum.inr) → (xs.map fun x => x.2.1).map (keyS H) = ks ∧ ∀ b ∈ xs.map (fun x => x.2.1), H b = some (.tup ((keyS H b).map V.str))
  | _, _, [], .nil, _ => ⟨rfl, fun b hb => (nomatch hb)⟩
  | _, _, _ :: _, .nil, h => by cases h
  | _, _, [], .cons _ _, h => by cases h
  | _, _, k :: ks, .cons (a := p) (b := x) h t, e => by
    rw [List.map_cons, List.map_cons] at e
    injection e with e1 e2
    obtain ⟨i1, i2⟩ := keys_kt t e2
    have hb : H x.2.1 = some (.tup (k.map V.str)) := by
      rw [h.2.1, e1, List.map_map]
      rfl
    have hk := keyS_of hb
    refine ⟨by rw [List.map_cons, List.map_cons, i1, hk], fun b hm => ?_⟩
    rw [List.map_cons] at hm
    rcases List.mem_cons.mp hm with rfl | hm
    · rw [hk]
      exact hb
    · exact i2 b hm
open PyProof.Rows.G in
theorem call_sortKT {X : Cx} (hc : X.calm = true) : CallR X (.builtin "sorted") rSortKT := by
  intro pins s σ H xs us Q I r h
  obtain ⟨d, kvs, ks, rfl, hd, hks, hne, h64, q⟩ := h
  obtain ⟨u, rfl, rx⟩ := vals1 r
  cases rx
  obtain ⟨z, hs, xs, pr, o, es, ep, ho, hx, hdt, he, hn⟩ := (show ObjOk X.prog X.w H s.heap d (.dT kvs) from hd.ok I.hok)
  have l1 : es.size = xs.length := size_of_entries he
  have l2 : kvs.length = xs.length := Paired.length pr
  have l3 : kvs.length = ks.length := by simpa using congrArg List.length hks
  obtain ⟨hk1, hk2⟩ := keys_kt pr hks
  refine Calls.call_function_entry PyProof.Rows.kind_sorted PyProof.Rows.plain_sorted PyProof.Rows.entry_sorted (PyProof.Rows.args_sorted1 _) ?_
  unfold Builtin.«sorted»
  refine wpAny_bind (m := checkCount "sorted" 1 1 _) (wpAny_pure ?_)
  refine wpAny_bind (PySem.W.kdu_collect (A := X.A.in1) (kdl_raw hs hx hdt) (I.ok.hd hc) ho (by rw [sizeLine_eq]; omega) fun h' tk acc hk hacc => ?_)
  have ea : acc.toList = (xs.map fun x => x.2.1).map Value.ref := by
    rw [List.map_map]
    have hl : acc.toList.length = xs.length := by rw [Array.length_toList, hacc.1]; exact l1
    apply List.ext_getElem?
    intro j
    rw [List.getElem?_map]
    cases hj : acc.toList[j]? with
    | none =>
      have h1 := List.getElem?_eq_none_iff.mp hj
      rw [List.getElem?_eq_none (by omega)]
      all_goals rfl
    | some v =>
      obtain ⟨en, hen, hv⟩ := hacc.2 j v (by rw [← Array.getElem?_toList]; exact hj)
      have qe := entry_at he j
      rw [hen] at qe
      cases hb : xs[j]? with
      | none =>
        rw [hb] at qe
        exact nomatch (show some en = none from qe)
      | some b =>
        rw [hb] at qe
        have e2 : en = entryOfKey (tupleKind (mixKind X.prog X.w)) b := Option.some.inj qe
        rw [hv, e2]
        all_goals rfl
  generalize hbs : (xs.map fun x => x.2.1) = bs at hk1 hk2 ea
  have lb : bs.length = ks.length := by rw [← hbs, List.length_map]; omega
  have I1 : Inv X pins σ H { s with heap := h', toks := tk } := I.kept hk
  have hal : acc.toList.length = ks.length := by rw [ea, List.length_map, lb]
  refine wpAny_bind (wpAny_newList ?_ (by rw [hal, sizeLine_eq]; omega))
  have hoL : (h'.push (seqObj "list" acc.toList.toArray 0)).get? h'.objs.size = some (seqObj "list" acc.toList.toArray 0) := Heap.get?_push_size _ rfl
  show wpAny _ _ _ _ _ { s with heap := h'.push (seqObj "list" acc.toList.toArray 0), toks := tk }
  have tS : ∀ b ∈ bs, TupS (h'.push (seqObj "list" acc.toList.toArray 0)) b (keyS H b) := fun b hb => by
    obtain ⟨its, rv, ⟨o, e1, e2, n, e3⟩, _⟩ := I1.tuple (a := b) (xs := (keyS H b).map V.str) (.inl (.inl (hk2 b hb)))
    exact ⟨o, its.toArray, n, Heap.get?_push_of_some _ e1, e2, e3, by simpa using rv.strs⟩
  have nek : ∀ b ∈ bs, keyS H b ≠ [] := fun b hb => hne _ (by rw [← hk1]; exact List.mem_map_of_mem hb)
  obtain ⟨fs, ht⟩ := tupsOf fun b hb => (tS b hb).of (nek b hb)
  rw [← ea] at ht
  refine wpAny_bind (wpAny_holding (wpAny_call_entry PyProof.Rows.slot_list_sort ⟨_, hoL, rfl⟩ PyProof.Rows.entry_list_sort
    (list_sort_tups (shape := fun _ => true) (s := { s with heap := h'.push (seqObj "list" acc.toList.toArray 0), toks := tk }) hoL ht (fun v hv => by
      rw [ea] at hv
      obtain ⟨b, hb, rfl⟩ := List.mem_map.mp hv
      exact ⟨_, (tS b hb).key⟩) (by rw [hal, sizeLine_eq]; omega) fun st' hp hs _ => ⟨_, rfl, ?_⟩)
    (PyProof.Rows.args_list_sort _)))
  obtain ⟨e', he'⟩ := PyProof.Rows.sortedHeap_at (vs := acc.toList) (out := (arrOf st').map (·.2)) hoL
  have hl : (arrOf st').toList.Perm (acc.toList.zip acc.toList) := by rw [← pairsOf_toList]; exact Array.perm_iff_toList_perm.mp hp
  have hmem : ∀ p, p ∈ (arrOf st').toList → p.1 = p.2 ∧ p.1 ∈ acc.toList := fun p hp' => mem_zip_self (hl.mem_iff.mp hp')
  have hko : KeysOf (tupKindC (h'.push (seqObj "list" acc.toList.toArray 0)) fun _ => true) (arrOf st') := fun p hp' => by
    have := (hmem p hp').2
    rw [ea] at this
    obtain ⟨b, hb, e⟩ := List.mem_map.mp this
    exact ⟨_, by rw [← e]; exact (tS b hb).key⟩
  have hpw := keyLe_of_sorted hko (by rw [hp.size_eq]; exact hs)
  have eo : ((arrOf st').map (·.2)).toList = (arrOf st').toList.map (·.1) := by
    rw [Array.toList_map]; exact List.map_congr_left fun p hp' => (hmem p hp').1.symm
  have hpo : ((arrOf st').toList.map (·.1)).Perm (bs.map Value.ref) := by
    have e := hl.map (·.1)
    have e2 : (acc.toList.zip acc.toList).map (·.1) = acc.toList := List.map_fst_zip (Nat.le_refl _)
    rw [e2, ea] at e
    exact e
  obtain ⟨cs, ecs⟩ : ∃ cs : List Addr, (arrOf st').toList.map (·.1) = cs.map Value.ref := refs_of fun u hu => by
    obtain ⟨b, _, e⟩ := List.mem_map.mp (hpo.mem_iff.mp hu)
    exact ⟨b, e.symm⟩
  have hpc : cs.Perm bs := by
    rw [ecs] at hpo
    have e := hpo.map fun v => match v with | Value.ref b => b | _ => 0
    rw [List.map_map, List.map_map] at e
    have i1 : ∀ l : List Addr, l.map ((fun v => match v with | Value.ref b => b | _ => 0) ∘ Value.ref) = l := fun l => List.map_id l
    rw [i1, i1] at e
    exact e
  have hsort : cs.map (keyS H) = sortTT ks := by
    refine sortTT_eq (by rw [← hk1]; exact hpc.map _) ?_
    have h1 : ((arrOf st').toList.map (·.1)).Pairwise fun u v => ∀ b c, u = Value.ref b → v = Value.ref c → b ∈ bs → c ∈ bs → leT (keyS H b) (keyS H c) = true := by
      rw [List.pairwise_map]
      refine hpw.imp fun {p q} hpq b c e1 e2 hb hc' => ?_
      obtain ⟨x, y, k1, k2, k3⟩ := hpq
      rw [e1] at k1
      rw [e2] at k2
      have k1' : some (kdT (keyS H b)) = some x := (tS b hb).key.symm.trans k1
      have k2' : some (kdT (keyS H c)) = some y := (tS c hc').key.symm.trans k2
      cases k1'
      cases k2'
      exact leT_kle.mpr k3
    rw [ecs, List.pairwise_map] at h1
    rw [List.pairwise_map]
    refine List.Pairwise.imp_of_mem (fun {b c} hb hc' hh => hh b c rfl rfl (hpc.mem_iff.mp hb) (hpc.mem_iff.mp hc')) h1
  have hlen : (cs.map V.ref).length ≤ sizeLine := by
    rw [List.length_map, hpc.length_eq, lb, sizeLine_eq]
    omega
  refine wpAny_pure ⟨_, rfl, .ref h'.objs.size, upd H h'.objs.size (.lst (cs.map V.ref)), I1.laid (t' := tk) (fun b u e => ?_) (Nat.le_refl _)
    (show ObjOk X.prog X.w _ _ _ (.lst (cs.map V.ref)) from ⟨hlen, ((arrOf st').map (·.2)).toList, e', by rw [eo, ecs]; exact vals_refs _, by rw [Array.toArray_toList]; exact he'⟩), rfl, q cs _ (I1.hok.fresh (Nat.le_refl _)) hsort fun b hb => hk2 b (hpc.mem_iff.mp hb)⟩
  have hb : b < h'.objs.size := Heap.lt_size e
  rw [PyProof.Rows.sortedHeap_old (Nat.ne_of_lt hb) (by rw [size_push']; exact Nat.lt_succ_of_lt hb)]
  exact Heap.get?_push_of_some _ e
/-! its function of data -/
def strsK : List Key → Option (List Str)
  | [] => some []
  | .inr x :: r => (strsK r).map (x :: ·)
  | .inl _ :: _ => none
def asTT : List (List Key × Dt) → Option (List (List Str))
  | [] => some []
  | kv :: r => (strsK kv.1).bind fun x => (asTT r).map (x :: ·)
theorem strsK_ok : ∀ {k : List Key} {x : List Str}, strsK k = some x → k = x.map Sum.inr
  | [], x, h => by cases h; rfl
  | .inr y :: r, x, h => by
    unfold strsK at h
    obtain ⟨l, e, rfl⟩ := Option.map_eq_some_iff.mp h
    rw [strsK_ok e]
    rfl
  | .inl _ :: _, x, h => by cases h
theorem asTT_ok : ∀ {kvs : List (List Key × Dt)} {ks : List (List Str)}, asTT kvs = some ks → kvs.map (·.1) = ks.map (List.map Sum.inr)
  | [], ks, h => by cases h; rfl
  | kv :: r, ks, h => by
    unfold asTT at h
    obtain ⟨x, e1, e2⟩ := Option.bind_eq_some_iff.mp h
    obtain ⟨l, e3, rfl⟩ := Option.map_eq_some_iff.mp e2
    rw [List.map_cons, List.map_cons, asTT_ok e3, strsK_ok e1]
def tupsD (l : List (List Str)) : List Dt := l.map fun k => Dt.tup (k.map Dt.str)
def cSortK (ds : List Dt) (μ : Mem) : R Dt := match ds with
  | [d] => match (asQ μ d).bind asTT with
    | some ks => if (ks.all fun k => !k.isEmpty) = true ∧ ks.length < 64 then .ok (.lst (tupsD (sortTT ks))) μ else .no
    | none => .no
  | _ => .no
/-- tuples that stand somewhere are known from then on -/
theorem WR.knowTs {H : Hp} {μ : Mem} : ∀ {bs : List Addr} {ω : Wd}, WR ω μ H → (∀ b ∈ bs, H b = some (.tup ((keyS H b).map V.str))) → ∃ ω', Le ω ω' ∧ WR ω' μ H ∧ RpL ω' (bs.map V.ref) (tupsD (bs.map (keyS H)))
  | [], ω, w, _ => ⟨ω, Le.refl _, w, .nil⟩
  | b :: bs, ω, w, h => by
    obtain ⟨ω1, l1, w1, r1⟩ := WR.knowTs (bs := bs) w fun c hc => h c (List.mem_cons_of_mem _ hc)
    obtain ⟨ω2, l2, w2, b2⟩ := w1.knowT (h b List.mem_cons_self)
    exact ⟨ω2, l1.trans l2, w2, .cons (.tup b2 (RpL.strs _)) (r1.mono l2)⟩
section
variable {Γ : Gm}
theorem rc_sortK : RC Γ rSortKT cSortK := fun W ω σ μ H xs ds Q hg w r h => by
  unfold cSortK at h
  split at h
  · obtain ⟨v, rfl, rv⟩ := r.one
    split at h
    · rename_i ks e
      split at h
      · rename_i hl
        obtain ⟨kvs, e1, e2⟩ := Option.bind_eq_some_iff.mp e
        obtain ⟨p, vs, rfl, hx, rk⟩ := asQ_ok w rv e1
        refine ⟨p, vs, ks, rfl, hx, by rw [rk.keysT]; exact asTT_ok e2, fun k hk z => ?_, hl.2, fun bs q hq hs hb => ?_⟩
        · have := List.all_eq_true.mp hl.1 k hk
          rw [z] at this
          cases this
        · obtain ⟨ω1, l1, w1, r1⟩ := w.knowTs hb
          rw [hs] at r1
          exact (GoE.mono h l1).new w1 r1 hq
      · exact h.elim
    · exact h.elim
  · exact h.elim
end
end DM

set_option linter.all false
set_option maxRecDepth 100000
set_option maxHeartbeats 4000000
/-! DMI: except A as e, then except B without a name. -/
namespace DM
open PySem PySem.Spec PyProof.Rows L2
section
variable {X : Cx} {x y n : Str} {c c2 : Value} {i : Nat} {body suite suite2 : List Stmt} {b₀ d₀ : Stmt} {np np2 pos pos' pos2 : Pos} {tb : WX → TS} {ts : TS} {ts2 : Addr → Value → Option Addr → TS} {Wout : WX}
theorem ps_try_keepO (hs : X.stack = X.env :: X.outer) (hf : X.env.frame = some X.env.locals) (hex : X.ex = []) (hN : X.N.Nodup) (hi : X.N[i]? = some n) (hln : X.env.kindOf n = some .local) (hc : Names X x c) (hc2 : Names X y c2) (tk : Takes X Wout)
    (hb : ∀ (W : WX) (pn : List (Addr × Obj)) (xe : Value → Shared → Prop), Takes (X.tr pn xe) W → PassesOwn (model X.prog X.w) X.A X.env xe → PSs (X.tr pn xe) body (tb W))
    (hsu : ∀ a : Addr, PSs (supX X a) (b₀ :: suite) ts)
    (hsu2 : ∀ (a : Addr) (oe : Obj) (cls : Value) (d : Option Addr) (pn : List (Addr × Obj)), Zc cls d oe → (∃ vs, oe.data = .fields vs) → PSs (X.suite a ((a, oe) :: pn)) (d₀ :: suite2) (ts2 a cls d)) :
    PS X (.Try body [.ExceptHandler (some (.Name x np)) (some n) (b₀ :: suite) pos', .ExceptHandler (some (.Name y np2)) none (d₀ :: suite2) pos2] [] [] pos) (fun D σ H => tb (wKeep X.K c i ts (wOnly X.K c2 ts2 Wout D) D) D σ H) := by
  refine ⟨fun pins s σ H D I h => ?_⟩
  have ok := I.ok
  have hfr : X.A.frames = some (X.env :: X.outer) := by rw [ok.frames, hs]
  have hloc : Loc X.env.scope n := .inl hln
  refine wpAny_Try_except ?_
  refine wpAny_mono ((hb (wKeep X.K c i ts (wOnly X.K c2 ts2 Wout D) D) (X.pn ++ pins) (fun e s₁ => wpAny (model X.prog X.w) X.A (noteFrame e X.env) (fun _ s₂ => wpAny (model X.prog X.w) X.A (setFlight e none) (fun _ s₃ =>
    wpAny (model X.prog X.w) X.A (handleBy e X.env [.ExceptHandler (some (.Name x np)) (some n) (b₀ :: suite) pos', .ExceptHandler (some (.Name y np2)) none (d₀ :: suite2) pos2]) (SP X pins D) X.xe s₃) X.xe s₂) X.xe s₁) (fun u s' xx => ?_) PassesOwn.looking).run [] s σ H D (I.toTry _) h) (fun f s1 hsp => ?_) (fun e s1 he => he)
  · obtain ⟨a, B, sI, pins', σ', H', cls, d, rfl, J', nb, up, sky, na, os, ag, b, hb1, hyes, hno⟩ := xx
    have J : Inv X pins σ' H' sI := J'.ofTry ok
    have sky' : Sky B (X.env :: X.outer) a (Zc cls d) X.env.locals s'.heap := by rw [← hs]; exact sky
    show wpAny (model X.prog X.w) X.A (noteFrame (.ref a) X.env) _ _ _
    refine Sky.land Zc.steady hfr hf sky' fun h3 fl3 up3 => ?_
    have J3 : Inv X pins σ' H' { s' with heap := h3 } := J.landed nb fl3.1 (up.trans up3) os ag
    obtain ⟨oe3, vs3, he3, hz3, hd3⟩ := fl3.there
    have notFr : ∀ {h : Heap} {o : Obj} {vs : Array Value}, h.FunFrames B (X.env :: X.outer) → h.get? a = some o → o.data = .fields vs → a ∉ frs (X.env :: X.outer) := fun {h o vs} ff e dd hm => by
      obtain ⟨_, o', e', hnf⟩ := ff.mem hm
      rw [e] at e'; cases e'
      exact hnf _ dd
    have nfr := notFr fl3.2.2.1 he3 hd3
    have nL : a ≠ X.env.locals := fun z => nfr (List.mem_filterMap.mpr ⟨X.env, List.mem_cons_self, by rw [hf, z]⟩)
    have nF : a ∉ X.fs := fun hm => by
      obtain ⟨e, he, q⟩ := List.mem_filterMap.mp hm
      exact nfr (List.mem_filterMap.mpr ⟨e, List.mem_cons_of_mem _ he, q⟩)
    have S3 := J3.suite he3 hd3 na nL nF
    refine wpAny_handleBy_cons (codeAny_handlers_test ?_) (by intro q; cases q)
    have LT : PySem.W.Looks (model X.prog X.w) h3 (typeOf (.ref a)) cls := fun A Q E s k q => wpAny_typeOf_ref (k _ _ he3) (by rw [hz3.1]; exact q)
    have LM := PySem.W.exm_one (M := model X.prog X.w) (J3.kIn) LT hb1
    have test : ∀ {x : Str} {np : Pos} {c : Value}, Names X x c → ∀ {Q : Value → Shared → Prop} {E : Value → Shared → Prop}, Q c { s' with heap := h3 } → wpAny (model X.prog X.w) (X.A.mark (some (.ref a))) (eval (.Name x np) X.env) Q E { s' with heap := h3 } := fun {x np c} hc {Q E} q => by
      obtain ⟨hg, hdbg, hm | ⟨hm, hv, hnn⟩⟩ := hc
      · exact ld_glob (X := X.suite a ((a, oe3) :: (X.pn ++ pins))) S3 hg hm q hdbg
      · exact ld_blt (X := X.suite a ((a, oe3) :: (X.pn ++ pins))) S3 hg hm hv q hnn hdbg
    refine test hc (LM.here ?_)
    cases b with
    | true =>
      refine codeAny_handlers_suite_as ?_
      refine HandSPX.lands_againZ fl3 fun h4 fl4 up4 => ?_
      have J4 : Inv X pins σ' H' { s' with heap := h4 } := J.landed nb fl4.1 ((up.trans up3).trans up4) os ag
      obtain ⟨oe4, vs4, he4, hz4, hd4⟩ := fl4.there
      have S4 : Inv (supX X a) pins σ' (upd H' a (exK cls d a)) { s' with heap := h4 } := caught_track hex J J4 nb fl4.2.1 (by rw [hs]; exact nfr) nL na he4 hz4 hd4
      refine store_ok (X := supX X a) (v := .ref a) S4 hN hi hloc rfl (fun s5 S5 => ?_) (.inr hln)
      refine wpAny_mono ((hsu a).run pins s5 _ _ _ S5 (hyes rfl a na)) (fun f s6 hsp => ?_) (fun _ _ z => False.elim z)
      have end_ : ∀ {σ6 : L2.St} {H6 : Hp} {Q : Shared → Prop}, Inv (supX X a) pins σ6 H6 s6 → (∀ s7, Inv X pins (σ6.set i none) H6 s7 → Q s7) →
          wpAny (model X.prog X.w) X.A (do bindName X.env n .none; unbindBehindTheSuite X.env n pos') (fun _ s7 => Q s7) X.xe s6 := fun {σ6 H6 Q} S6 hq => gone_ok (Inv.ofSup S6 ok) hN hi hln hq
      cases f with
      | next =>
        obtain ⟨σ6, H6, S6, q6⟩ := hsp
        exact end_ S6 fun s7 J7 => ⟨_, _, J7, q6⟩
      | brk =>
        obtain ⟨σ6, H6, S6, q6⟩ := hsp
        exact end_ S6 fun s7 J7 => ⟨_, _, J7, q6⟩
      | cont =>
        obtain ⟨σ6, H6, S6, q6⟩ := hsp
        exact end_ S6 fun s7 J7 => ⟨_, _, J7, q6⟩
      | ret u =>
        obtain ⟨v6, σ6, H6, S6, r6, q6⟩ := hsp
        exact end_ S6 fun s7 J7 => ⟨_, _, _, J7, r6, q6⟩
    | false =>
      obtain ⟨b2, hb2, hyes2, hno2⟩ := hno rfl
      show wpAny _ X.A (handleBy (.ref a) X.env [.ExceptHandler (some (.Name y np2)) none (d₀ :: suite2) pos2]) _ _ _
      refine wpAny_handleBy_cons (codeAny_handlers_test ?_) (by intro q; cases q)
      have LM2 := PySem.W.exm_one (M := model X.prog X.w) (J3.kIn) LT hb2
      refine test hc2 (LM2.here ?_)
      cases b2 with
      | true =>
        refine codeAny_handlers_suite ?_
        refine HandSPX.lands_againZ fl3 fun h4 fl4 up4 => ?_
        have J4 : Inv X pins σ' H' { s' with heap := h4 } := J.landed nb fl4.1 ((up.trans up3).trans up4) os ag
        obtain ⟨oe4, vs4, he4, hz4, hd4⟩ := fl4.there
        have S4 := J4.suite he4 hd4 na nL nF
        refine wpAny_mono ((hsu2 a oe4 cls d (X.pn ++ pins) hz4 ⟨_, hd4⟩).run [] _ _ H' _ S4 (hyes2 rfl a na)) (fun f s6 hsp => ?_) (fun _ _ z => False.elim z)
        cases f with
        | next =>
          obtain ⟨σ6, H6, S6, q6⟩ := hsp
          exact ⟨_, _, S6.unsuite ok, q6⟩
        | brk =>
          obtain ⟨σ6, H6, S6, q6⟩ := hsp
          exact ⟨_, _, S6.unsuite ok, q6⟩
        | cont =>
          obtain ⟨σ6, H6, S6, q6⟩ := hsp
          exact ⟨_, _, S6.unsuite ok, q6⟩
        | ret u =>
          obtain ⟨v6, σ6, H6, S6, r6, q6⟩ := hsp
          exact ⟨_, _, _, S6.unsuite ok, r6, q6⟩
      | false =>
        show wpAny _ X.A (handleBy (.ref a) X.env []) _ _ _
        refine wpAny_handleBy_nil ?_
        obtain ⟨k1, k2, k3, oe, vs, T, oT, ts', he, hz, hd, h1, hr⟩ := id fl3
        unfold PySem.passOn
        refine wpAny_bind (wpAny_field he hd h1 ?_)
        rw [if_neg (show ¬ ((Value.ref T == Value.none) = true) from by simp)]
        have fin : wpAny (model X.prog X.w) X.A (setFlight (.ref a) X.env.frame) (fun _ s4 => wpAny (model X.prog X.w) X.A (throw (.ref a) : Sem Flow) (SP X pins D) X.xe s4) X.xe { s' with heap := h3 } := by
          rw [hf]
          refine HandSPX.setFlight_upZ fl3 fun h4 hh4 up4 => wpAny_throw (tk _ _ ?_)
          exact ⟨a, B, sI, pins, σ', H', cls, d, rfl, J, nb, (up.trans up3).trans up4, .inr (.inr (by rw [hs]; exact hh4)), na, os, ag, hno2 rfl⟩
        first
          | exact wpAny_bind (wpAny_pure (wpAny_bind fin))
          | exact wpAny_bind fin
  · cases f with
    | next =>
      obtain ⟨σ', H', J', q⟩ := hsp
      exact wpAny_execs_nil ⟨σ', H', J'.ofTry ok, q⟩
    | brk =>
      obtain ⟨σ', H', J', q⟩ := hsp
      exact ⟨σ', H', J'.ofTry ok, q⟩
    | cont =>
      obtain ⟨σ', H', J', q⟩ := hsp
      exact ⟨σ', H', J'.ofTry ok, q⟩
    | ret u =>
      obtain ⟨v, σ', H', J', r, q⟩ := hsp
      exact ⟨v, σ', H', J'.ofTry ok, r, q⟩
end
/-! its function of data: as sTry, whose rest is as sTryO -/
def sTry2 (cq : Nat → Option Bool) (i : Nat) (cq2 : Nat → Option Bool) (b s s2 : MS) : MS := fun δ μ => match b δ μ with
  | .ex n ns es δ' μ' => match cq n with
    | some true => (match s (δ'.set i (some (.exc n ns es))) μ' with
      | .nx δ2 μ2 => .nx (δ2.set i none) μ2
      | .bk δ2 μ2 => .bk (δ2.set i none) μ2
      | .ct δ2 μ2 => .ct (δ2.set i none) μ2
      | .rt d μ2 => .rt d μ2
      | _ => .no)
    | some false => (match cq2 n with
      | some true => (match s2 δ' μ' with
        | .ex _ _ _ _ _ => .no
        | o => o)
      | some false => .ex n ns es δ' μ'
      | none => .no)
    | none => .no
  | o => o
theorem sv_try2 {Γ : Gm} {W : WX} {K : PySem.W.Frag} {cv cv2 : Value} {cq cq2 : Nat → Option Bool} {i : Nat} {tb : WX → TS} {ts : TS} {ts2 : Addr → Value → Option Addr → TS} {b s s2 : MS} (hq : ∀ n k, cq n = some k → PySem.W.exmOne K (.ref (Γ.c n)) cv = some k) (hq2 : ∀ n k, cq2 n = some k → PySem.W.exmOne K (.ref (Γ.c n)) cv2 = some k)
    (hb : ∀ W, SV Γ W (tb W) b) (hs : SV Γ W0 ts s) (hs2 : ∀ a cls d, SV Γ W0 (ts2 a cls d) s2) :
    SV Γ W (fun D σ H => tb (wKeep K cv i ts (wOnly K cv2 ts2 W D) D) D σ H) (sTry2 cq i cq2 b s s2) := fun D σ H ⟨ω, δ, μ, hg, he, hw, h⟩ => hb _ D σ H ⟨ω, δ, μ, hg, he, hw, by
  unfold sTry2 at h
  cases eb : b δ μ with
  | nx δ' μ' => rw [eb] at h; exact h
  | rt d μ' => rw [eb] at h; exact h
  | bk δ' μ' => rw [eb] at h; exact h
  | ct δ' μ' => rw [eb] at h; exact h
  | no => rw [eb] at h; exact h
  | ex n ns es δ' μ' =>
    rw [eb] at h
    intro dd σ' ω' H' l w e x
    cases ec : cq n with
    | none =>
      simp only [ec] at h
      exact h.elim
    | some k =>
      simp only [ec] at h
      refine ⟨k, by rw [hg]; exact hq n k ec, fun hk a na => ?_, fun hk => ?_⟩
      · subst hk
        obtain ⟨l2, w2⟩ := w.newB (u := exK (.ref (ω.Γ.c n)) dd a) na
        have r2 : Rp { ω' with B := upd ω'.B a (exK (.ref (ω.Γ.c n)) dd a) } (.ref a) (.exc n ns es) := (x.mono l2).rp (by rw [show ({ ω' with B := upd ω'.B a (exK (.ref (ω.Γ.c n)) dd a) } : Wd).Γ = ω.Γ from l.g]; exact upd_same)
        refine hs _ _ _ ⟨_, _, _, (l.trans l2).g.trans hg, (e.mono l2).set i r2, w2, ?_⟩
        have h : GoS W ω (match s (δ'.set i (some (.exc n ns es))) μ' with
          | .nx δ2 μ2 => .nx (δ2.set i none) μ2
          | .bk δ2 μ2 => .bk (δ2.set i none) μ2
          | .ct δ2 μ2 => .ct (δ2.set i none) μ2
          | .rt d μ2 => .rt d μ2
          | _ => .no) D := h
        have h := GoS.mono h (l.trans l2)
        revert h
        cases s (δ'.set i (some (.exc n ns es))) μ' with
        | nx δ2 μ2 => exact fun h σ3 ω3 H3 l3 w3 e3 => h _ ω3 H3 l3 w3 (e3.unset i)
        | bk δ2 μ2 => exact fun h σ3 ω3 H3 l3 w3 e3 => h _ ω3 H3 l3 w3 (e3.unset i)
        | ct δ2 μ2 => exact fun h σ3 ω3 H3 l3 w3 e3 => h _ ω3 H3 l3 w3 (e3.unset i)
        | rt d μ2 => exact fun h => h
        | ex n ns es δ2 μ2 => exact fun h => h.elim
        | no => exact fun h => h.elim
      · subst hk
        dsimp only at h
        cases ec2 : cq2 n with
        | none =>
          simp only [ec2] at h
          exact h.elim
        | some k2 =>
          simp only [ec2] at h
          refine ⟨k2, by rw [hg]; exact hq2 n k2 ec2, fun hk a na => ?_, fun hk => ?_⟩
          · subst hk
            refine hs2 _ _ _ _ _ _ ⟨ω', δ', μ', l.g.trans hg, e, w, ?_⟩
            have h : GoS W ω (match s2 δ' μ' with
              | .ex _ _ _ _ _ => .no
              | o => o) D := h
            have h := GoS.mono h l
            revert h
            cases s2 δ' μ' with
            | nx δ2 μ2 => exact fun h => h
            | bk δ2 μ2 => exact fun h => h
            | ct δ2 μ2 => exact fun h => h
            | rt d μ2 => exact fun h => h
            | ex n ns es δ2 μ2 => exact fun h => h.elim
            | no => exact fun h => h.elim
          · subst hk
            exact h dd σ' ω' H' l w e x⟩
/-- of two classes apart: the one, not the other -/
def cqTwo (k k2 : Nat) : Nat → Option Bool := fun n => if n = k then some true else if n = k2 then some false else none
theorem cqTwo_ok {K : PySem.W.Frag} {Γ : Gm} {k k2 : Nat} (h1 : PySem.W.exmOne K (.ref (Γ.c k)) (.ref (Γ.c k)) = some true) (h2 : PySem.W.exmOne K (.ref (Γ.c k2)) (.ref (Γ.c k)) = some false) : ∀ n b, cqTwo k k2 n = some b → PySem.W.exmOne K (.ref (Γ.c n)) (.ref (Γ.c k)) = some b := fun n b e => by
  unfold cqTwo at e
  split at e
  · rename_i h
    cases e
    rw [h]
    exact h1
  · split at e
    · rename_i h
      cases e
      rw [h]
      exact h2
    · cases e
end DM

set_option linter.all false
set_option maxRecDepth 100000
set_option maxHeartbeats 4000000
/-! DMJ: a truth value is (is not) True; the greater of two whole numbers. -/
namespace DM
open PySem PySem.Spec PyProof.Rows L2
def rIsB (neg : Bool) : R2 := fun x y H Q => ∃ a b, x = .bl a ∧ y = .bl b ∧ Q (.bl (neg ^^ (a == b))) H
theorem bl_beq (a b : Bool) : (Value.bool a == Value.bool b) = (a == b) := by cases a <;> cases b <;> decide +kernel
theorem op_isB {X : Cx} : OpR X (compareOp .Is) (rIsB false) := by
  intro pins s σ H x y v u Q I rx ry h
  obtain ⟨a, b, rfl, rfl, q⟩ := h
  cases (show v = Value.bool a from rx)
  cases (show u = Value.bool b from ry)
  rw [Bool.false_xor] at q
  exact wpAny_is_plain rfl (fin_bl I q (bl_beq a b).symm)
theorem op_notB {X : Cx} : OpR X (compareOp .IsNot) (rIsB true) := by
  intro pins s σ H x y v u Q I rx ry h
  obtain ⟨a, b, rfl, rfl, q⟩ := h
  cases (show v = Value.bool a from rx)
  cases (show u = Value.bool b from ry)
  rw [Bool.true_xor] at q
  exact wpAny_isNot_plain rfl (fin_bl I q (congrArg not (bl_beq a b).symm))
def oIsB (neg : Bool) (a b : Dt) (μ : Mem) : R Dt := match a, b with
  | .bl x, .bl y => .ok (.bl (neg ^^ (x == y))) μ
  | _, _ => .no
theorem ro_isB {Γ : Gm} {neg : Bool} : RO Γ (rIsB neg) (oIsB neg) := fun W ω σ μ H x y a b Q hg w ra rb h => by
  unfold oIsB at h
  split at h
  · cases ra
    cases rb
    exact ⟨_, _, rfl, rfl, h.ok w (.bl _)⟩
  · exact h.elim
theorem oIsB_bl {neg x y : Bool} {μ : Mem} : oIsB neg (.bl x) (.bl y) μ = .ok (.bl (neg ^^ (x == y))) μ := rfl
def rMax : List V → Hp → VK → Prop := fun xs H Q => ∃ i j, xs = [.int i, .int j] ∧ Q (.int (if j > i then j else i)) H
theorem k_max {X : Cx} (hc : X.calm = true) : CallR X (.builtin "max") rMax := call_max2 hc
def cMax (ds : List Dt) (μ : Mem) : R Dt := match ds with
  | [.int i, .int j] => .ok (.int (if j > i then j else i)) μ
  | _ => .no
theorem rc_max {Γ : Gm} : RC Γ rMax cMax := fun W ω σ μ H xs ds Q hg w r h => by
  unfold cMax at h
  split at h
  · obtain ⟨v, u, rfl, r1, r2⟩ := r.two
    cases r1
    cases r2
    exact ⟨_, _, rfl, h.ok w (.int _)⟩
  · exact h.elim
theorem cMax_int {i j : Int} {μ : Mem} : cMax [.int i, .int j] μ = .ok (.int (if j > i then j else i)) μ := rfl
end DM

set_option linter.all false
set_option maxRecDepth 100000
set_option maxHeartbeats 4000000
/-! DMX: the head by one run of the kernel: facts of one's own, each a truth of the written part, and the defs. -/
namespace DM
open PySem PySem.Spec PyProof.Rows L2
/-- what the run shows of the part K: the facts cs, the defs fn -/
def hView (cs : List (PySem.W.Frag → Bool)) (fn : List He.DefD) (K : PySem.W.Frag) : He.AlD := ((cs.all fun c => c K) && fn.all fun d => d.ok K, fn.map fun d => He.fnW K d.at_)
def HB (cs : List (PySem.W.Frag → Bool)) (fn : List He.DefD) (K : PySem.W.Frag) : Prop := hView cs fn K = He.valD fn
/-- what an object names, code aside -/
def refsX (o : Obj) : List Addr := (match o.dict with
  | some d => [d]
  | none => []) ++ match o.data with
  | .seq its _ => its.toList.flatMap He.refV
  | .dict es _ => es.toList.flatMap fun e => He.refV e.val
  | .func fd => He.refV fd.code ++ (He.refV fd.defaults ++ He.refV fd.kwdefaults)
  | .cls cd => cd.ns :: cd.mro.flatMap He.refV
  | _ => []
def growX (g : Addr → Option Obj) (as : List Addr) : List Addr := (as ++ as.flatMap fun a => match a == mainGlobals with
  | true => []
  | false => (match g a with
    | some o => refsX o
    | none => [])).eraseDups
/-- the module's names xs, and what they reach in n steps (4 reach a method's defaults) -/
def asX (xs : List Str) (g : Addr → Option Obj) : Nat → List Addr
  | 0 => mainGlobals :: xs.filterMap fun x => (match PySem.W.nsIn (He.frG g [mainGlobals]) mainGlobals x with
    | some (some (.ref a)) => some a
    | _ => none)
  | n + 1 => growX g (asX xs g n)
def obsX (n : Nat) (xs : List Str) (cs : List (PySem.W.Frag → Bool)) (fn : List He.DefD) (g : Addr → Option Obj) : He.AlD := hView cs fn (He.frG g (asX xs g n))
def hookX (n : Nat) (xs : List Str) (cs : List (PySem.W.Frag → Bool)) (fn : List He.DefD) : PySem.W.Hook where
  α := He.AlD
  obs := fun s => obsX n xs cs fn s.heap.get?
  val := fun _ => He.valD fn
  says := fun _ h => ∃ K : PySem.W.Frag, K.In h ∧ HB cs fn K
  of := fun _ _ e => ⟨_, He.frG_in, e⟩
  keeps := fun _ _ _ ⟨K, hK, c⟩ k => ⟨K, PySem.W.Frag.In.keeps hK k, c⟩
theorem obsX_eq {n : Nat} {xs : List Str} {cs : List (PySem.W.Frag → Bool)} {fn : List He.DefD} {g : Addr → Option Obj} {s : Shared} (h : ∀ a, g a = s.heap.get? a) : obsX n xs cs fn g = (hookX n xs cs fn).obs s := by
  have e : g = s.heap.get? := funext h
  rw [e]
  rfl
/-- the run in two parts: how the top ends, what the Hook sees -/
def RunA (r : PySem.W.OpenRow) (q : Program) (M : Nat) (loose : List PySem.Str) (w : World) : Prop :=
  ∀ os : OsState, (HandSHeadRun.endF (HandSHeadRun.stepQ (HandSHeadRun.denQ HandSHeadRun.tabQ) r.prog w) M r.prog w os).map (fun s => (HandSHeadRun.looksF r.prog (PySem.W.boot_heap w.params) s.abs, HandSHeadRun.seenQ q loose (importedModules r.prog.main.body) (fun s => PySem.W.xlAt q [] s && PySem.W.recOk r.toRowW.records s) s.abs)) = some (true, PySem.W.openGood q loose)
def RunB (r : PySem.W.OpenRow) (H : PySem.W.Hook) (ob : PySem.W.SharedT → H.α) (M : Nat) (w : World) : Prop :=
  ∀ os : OsState, (HandSHeadRun.endF (HandSHeadRun.stepQ (HandSHeadRun.denQ HandSHeadRun.tabQ) r.prog w) M r.prog w os).map ob = some (H.val w)
theorem run_two {r : PySem.W.OpenRow} {q : Program} {H : PySem.W.Hook} {ob : PySem.W.SharedT → H.α} {M : Nat} {loose : List PySem.Str} {w : World} (hA : RunA r q M loose w) (hB : RunB r H ob M w) : HandSHeadRun.RunEq r q H ob M loose w := fun os => by
  have h1 := hA os
  have h2 := hB os
  generalize HandSHeadRun.endF (HandSHeadRun.stepQ (HandSHeadRun.denQ HandSHeadRun.tabQ) r.prog w) M r.prog w os = x at h1 h2 ⊢
  cases x with
  | none => cases h1
  | some s =>
    simp only [Option.map_some, Option.some.injEq, Prod.mk.injEq] at h1 h2 ⊢
    exact ⟨h1.1, h1.2, h2⟩
section
variable {cs : List (PySem.W.Frag → Bool)} {fn : List He.DefD} {K : PySem.W.Frag}
theorem HB.fact (c : HB cs fn K) (i : Nat) {f : PySem.W.Frag → Bool} (h : cs[i]? = some f) : f K = true := by
  have h1 : ((cs.all fun c => c K) && fn.all fun d => d.ok K) = true := congrArg (fun z : He.AlD => z.1) c
  exact List.all_eq_true.mp (Bool.and_eq_true_iff.mp h1).1 f (List.mem_of_getElem? h)
theorem HB.def_ (c : HB cs fn K) (i : Nat) {d : He.DefD} (h : fn[i]? = some d) : ∃ fd, FunD K d.name d.qual d.params d.body d.scope (d.dvs K) (d.kws K) (He.fAd K d.at_) fd := by
  have h1 : ((cs.all fun c => c K) && fn.all fun d => d.ok K) = true := congrArg (fun z : He.AlD => z.1) c
  have e : fn.map (fun d => He.fnW K d.at_) = fn.map He.DefD.val := congrArg (fun z : He.AlD => z.2) c
  have e2 : (fn.map fun d => He.fnW K d.at_)[i]? = (fn.map He.DefD.val)[i]? := by rw [e]
  rw [List.getElem?_map, List.getElem?_map, h] at e2
  exact He.DefD.funD (Option.some.inj e2) (List.all_eq_true.mp (Bool.and_eq_true_iff.mp h1).2 d (List.mem_of_getElem? h))
end
/-- the object that a keyword's default is -/
def kwA (p : Str × Option Str) (x : Str) (K : PySem.W.Frag) : Addr := match K.lookup (He.fAd K p) with
  | some ⟨_, _, .func fd, _⟩ => (match fd.kwdefaults with
    | .ref D => (match PySem.W.nsIn K D x with
      | some (some (.ref a)) => a
      | _ => 0)
    | _ => 0)
  | _ => 0
/-- the object that a default is -/
def dfA (p : Str × Option Str) (i : Nat) (K : PySem.W.Frag) : Addr := He.dflAt p i K
def ktB (K : PySem.W.Frag) (a : Addr) (vs : List V) : Bool := match K.lookup a with
  | some ⟨.type c, _, .seq its _, _⟩ => decide (c = "tuple") && (decide (its.size ≤ sizeLine) && He.relAll vs its.toList)
  | _ => false
theorem ktB_ok {K : PySem.W.Frag} {a : Addr} {vs : List V} (h : ktB K a vs = true) : KTup K a vs := by
  unfold ktB at h
  split at h
  · rename_i c od its n sl e
    rw [Bool.and_eq_true, Bool.and_eq_true] at h
    obtain ⟨h1, h2, h3⟩ := h
    have h1 := of_decide_eq_true h1
    subst h1
    exact ⟨_, its, n, e, rfl, rfl, of_decide_eq_true h2, He.relAll_ok h3⟩
  · cases h
theorem gci {K : PySem.W.Frag} {h : Heap} {mg : Str → Option Value} (X : K.In h) (G : h.Ns mainGlobals mg) {x : Str} {i : Int} (c : (He.Fa.int x i).ok K = true) : GC mg x (.int i) := by
  obtain ⟨t, e⟩ := He.int_ok X G c
  exact ⟨_, e, ⟨t, rfl⟩⟩
theorem gcs {K : PySem.W.Frag} {h : Heap} {mg : Str → Option Value} (X : K.In h) (G : h.Ns mainGlobals mg) {x z : Str} (c : (He.Fa.str x z).ok K = true) : GC mg x (.str z) := by
  obtain ⟨t, e⟩ := He.str_ok X G c
  exact ⟨_, e, ⟨t, rfl⟩⟩
/-- a law's end over such a head -/
theorem walk_ofW {l : PySem.W.OpenLaw} {n k : Nat} {q : Program} {loose : List Str} {XP : (Str → Option Value) → Heap → Prop} {YP : World → Heap → Prop} {d : DefRec} {CX : World → CXT} {x : Str}
    (hn : l.most = some n) (hn2 : n ≤ sizeLine) (hdf : d.params.defaults = []) (hr : Room k callerA)
    (F : ∀ (w : World) (mg : Str → Option Value) (fa : Addr) (h : Heap), YP w h → h.Ns mainGlobals mg → mg d.name = some (.ref fa) →
      ∃ (K : PySem.W.Frag) (fd : FuncData) (sp : Sp), K.In h ∧ (∀ (s : Shared) (u : Value), BindsTo s fd ⟨[u], []⟩ [(x, u)]) ∧
        (∀ (H : Hp) (a : Addr) (ns : List Int), ns.length ≤ n → Only H → SqL K H a (ns.map V.int) → sp [.ref a] H (fun v _ => v = .bl true) fun _ _ _ => False) ∧
        ∀ base : Heap, K.In base → base.Ns mainGlobals mg → FnOk l.prog w K mg base (CX w) k fa fd [x] sp)
    (hCX : ∀ (w : World) (H : Hp) (s : Shared) (e : Value) (s' : Shared), CX w [] H s (fun _ _ _ => False) e s' → False) :
    PySem.W.WalkO q loose XP YP l.row.toRowW d [] (fun f vs => PySem.call f vs) := by
  refine Att.attach_call hn hdf fun w s₀ s₁ mg mb fa o pm cd doc a vs ns G Y ho hd hcd hmg hobj hints hlen hg => ?_
  obtain ⟨K, fd, sp, KX, hb, hsp, hF⟩ := F w mg fa _ Y G.T.g hmg
  exact law_call KX G.T.g G.T.b G.T.builtins G.T.nolimit hg hobj hints (Nat.le_trans hlen hn2) hr hF hb (fun H hO hS => hsp H a ns hlen hO hS) fun H e s' => hCX w H s₁ e s'
end DM

set_option linter.all false
set_option maxRecDepth 100000
set_option maxHeartbeats 4000000
/-! DMK: len of a set comprehension of texts. -/
namespace DM
open PySem PySem.Spec PyProof.Rows L2
section
variable {X : Cx}
/-- a text is put into the set at D -/
theorem addK_ok {pins : List (Addr × Obj)} {σ : L2.St} {H : Hp} {s : Shared} {E : Value → Shared → Prop} {D : Addr} {S : Key → Bool} {n : Nat} {x : Str} {u : Value} {Q : Value → Shared → Prop} (I : Inv X pins σ H s) (hD : H D = some (SetK X.prog X.w D S n)) (hn : n + 1 < scanBound) (ru : RelV (.str x) u)
    (h : ∀ s', Inv X pins σ (upd H D (SetK X.prog X.w D (fun j => S j || decide (j = .inr x)) (if S (.inr x) = true then n else n + 1))) s' → Q .none s') : wpAny (model X.prog X.w) X.A (call (.builtin "set.add") [.ref D, u]) Q E s := by
  have ru' : RelV (kV (.inr x)) u := ru
  refine call_set_add (kV_is ru') (key_scan ru') (setK_get I hD) hn fun h' sb new => ?_
  obtain ⟨o, _, _, _, ho, _⟩ := id new
  exact h _ (I.write (e := D) (t' := s.toks + 1) (by rw [hD]; trivial) (.inl rfl) (fun b z hb hz => (sb.2 b hb).trans hz) ⟨o, ho⟩ (setK_new new))
/-- {elt for tg in iter}, elt a text: D the new set -/
def tSk (P : Program) (w : World) (wi : TI) (g : TG) (te : TE) (vs : List Nat) : TE := fun σ H Q => wi σ H fun J H1 => ∀ D, H1 D = none → ∃ N : Nat → Nat → Hp → Prop, (∃ m, N 0 m (upd H1 D (SetK P w D (fun _ => false) 0))) ∧ ∀ i m H, N i m H →
  (J.stop i H ∧ Q (.ref D) H) ∨ (J.go i H ∧ ∃ Z : Hp → Prop, (∀ H', Z H' → ∃ m', m' < m ∧ N (i + 1) m' H') ∧ ∀ x H', J.yld i H x H' → g x (wipe σ vs) H' fun σ2 H2 => wipe σ2 vs = wipe σ vs ∧
    te σ2 H2 fun y H4 => ∃ (c : Str) (S : Key → Bool) (n : Nat), y = .str c ∧ H4 D = some (SetK P w D S n) ∧ n + 1 < scanBound ∧ Z (upd H4 D (SetK P w D (fun j => S j || decide (j = .inr c)) (if S (.inr c) = true then n else n + 1))))
theorem sk_core {pins : List (Addr × Obj)} {s : Shared} {σ : L2.St} {H : Hp} {Q : VK} {elt tg iter : Expr} {scope : Scope} {own : List (PySem.Str × Nat)} {pos pos' : Pos} {wi : TI} {g : TG} {te : TE} {use : Option (Value → Sem Unit)} {Qf : Value → Shared → Prop}
    (hc : X.calm = true) (hN : X.N.Nodup) (I : Inv X pins σ H s) (hi : PI X tg iter wi) (ok : BlkOk X.N X.env.scope scope own)
    (hg : ∀ (s : Shared) (H : Hp) (C : Addr) (cl : List (PySem.Str × Addr)) (fp : List Addr), PG (X.blk s H scope (compEnvC scope cl C X.env) fp) tg g)
    (he : ∀ (s : Shared) (H : Hp) (C : Addr) (cl : List (PySem.Str × Addr)) (fp : List Addr), PE (X.blk s H scope (compEnvC scope cl C X.env) fp) elt te) (hs : ∀ x, foldedSetIterable iter X.env x = pure x)
    (h : tSk X.prog X.w wi g te (own.map (·.2)) σ H Q)
    (fin : ∀ D C s' m H', Inv X pins σ H' s' → Q (.ref D) H' → s'.heap.Ns C m → FpOk X pins H' C → compPost (model X.prog X.w) X.A X.xe use Qf (.ref D) C (.ok .next) s') :
    wpAny (model X.prog X.w) X.A (comprehension (.SetComp elt [⟨tg, iter, [], 0⟩] scope pos) scope X.env pos' (newSet (.type "set")) false (eval iter X.env) use) Qf X.xe s := by
  have free : ∀ y ∈ scope.names, y.2 = .free → ∃ c, X.env.cells.lookup y.1 = some c := fun y hy e => (ok.free y hy e).elim (fun k => I.ok.has _ (.inl k)) fun k => I.ok.has _ (.inr k)
  refine wpAny_comprehension_free (use := use) rfl hs (closure_ok free) ok.kind (fun y hy e => by rw [ok.uniq y hy, e])
    (thn (hi.run pins s σ H _ I h) fun xv s1 hx => thn hx fun itv s2 h2 => ?_)
  obtain ⟨it, fp, tn, J, H2, e, I2, T, st2, f2, q⟩ := h2
  subst e
  refine PpSet.newSet_ok (newEnv_comp ?_)
  generalize hD : s2.heap.objs.size = D
  have Dn : H2 D = none := I2.hok.fresh (Nat.le_of_eq hD)
  obtain ⟨N, ⟨m0, n0⟩, turn⟩ := q D Dn
  generalize hs3 : ({ s2 with heap := s2.heap.push { cls := .type "set", dict := none, data := .set #[] 0 (.fresh 0 0 (!X.w.params.followText "set-order")) } } : Shared) = s3
  have I3 : Inv X pins σ (upd H2 D (SetK X.prog X.w D (fun _ => false) 0)) s3 := by
    rw [← hs3]
    refine I2.laid (t' := s2.toks) (fun b o e => Heap.get?_push_of_some _ e) (Nat.le_of_eq hD) ?_
    rw [← hD]
    exact setK_new ⟨_, #[], 0, _, Heap.get?_push_size _ rfl, ⟨rfl, rfl, rfl⟩, rfl, (fun e he => by simp at he), (fun k => by simp), (by decide), (by rfl), rfl⟩
  have h3 : s3.heap = s2.heap.push { cls := .type "set", dict := none, data := .set #[] 0 (.fresh 0 0 (!X.w.params.followText "set-order")) } := by rw [← hs3]
  have small : ∀ b ∈ fp, b < s2.heap.objs.size := fun b hb => let ⟨o, e, _⟩ := T.obj _ _ st2 b hb; Heap.lt_size e
  have f3 : ∀ b ∈ fp, FpOk X pins (upd H2 D (SetK X.prog X.w D (fun _ => false) 0)) b ∧ b < s3.heap.objs.size := fun b hb => by
    have lt := small b hb
    refine ⟨⟨?_, (f2 b hb).2⟩, by rw [h3, Heap.size_push]; exact Nat.lt_succ_of_lt lt⟩
    rw [upd_ne (by rw [← hD]; exact Nat.ne_of_lt lt)]
    exact (f2 b hb).1
  have st3 : tn 0 s3.heap := T.keep _ _ _ st2 fun b _ o e => by rw [h3]; exact Heap.get?_push_of_some _ e
  have I4 := block_start I3 ok hN f3
  generalize hce : compEnvC scope (cellsFrom (s3.heap.objs.size + 1) scope.names (cloFrom X.env.cells scope.names [])) s3.heap.objs.size X.env = ce at I4
  have ceL : ce.locals = s3.heap.objs.size := by subst hce; rfl
  have noFp : ∀ b ∈ fp, (upd H2 D (SetK X.prog X.w D (fun _ => false) 0)) b = none := fun b hb => (f3 b hb).1.1
  generalize hH3 : upd H2 D (SetK X.prog X.w D (fun _ => false) 0) = H3 at I3 I4 n0 noFp f3
  have pg := hg s3 H3 s3.heap.objs.size (cellsFrom (s3.heap.objs.size + 1) scope.names (cloFrom X.env.cells scope.names [])) fp
  have pe := he s3 H3 s3.heap.objs.size (cellsFrom (s3.heap.objs.size + 1) scope.names (cloFrom X.env.cells scope.names [])) fp
  rw [hce] at pg pe
  show codeAny _ _ (.compStart (.SetComp elt [⟨tg, iter, [], 0⟩] scope pos) 0 (.ref it) (.ref D) (compEnvC scope (cellsFrom (s3.heap.objs.size + 1) scope.names (cloFrom X.env.cells scope.names [])) s3.heap.objs.size X.env)) (compPost (model X.prog X.w) X.A X.xe use Qf (.ref D) s3.heap.objs.size) { s3 with heap := pushCells (s3.heap.push { cls := .type "dict", data := .dict #[] }) scope.names }
  rw [hce]
  generalize hs4 : ({ s3 with heap := pushCells (s3.heap.push { cls := .type "dict", data := .dict #[] }) scope.names } : Shared) = s4 at I4 ⊢
  have st4 : tn 0 s4.heap := T.keep _ _ _ st3 fun b _ o e => by rw [← hs4]; exact pushCells_keeps _ _ _ _ (Heap.get?_push_of_some _ e)
  have stay : ∀ {σ' : L2.St} {H' : Hp} {s' : Shared}, Inv (X.blk s3 H3 scope ce fp) [] σ' H' s' → (∀ b ∈ fp, H' b = none) → ∀ b ∈ fp, FpOk (X.blk s3 H3 scope ce fp) [] H' b := fun {σ' H' s'} I' hn b hb =>
    ⟨hn b hb, (I'.ok.exf b hb).1, I'.ok.exfs b hb, .inl hb, fun x c e => (I'.ok.exf b hb).2 x c e, fun p hp => absurd (show p ∈ ([] : List (Addr × Obj)) ++ [] from hp) (by simp)⟩
  have loop : codeAny (model X.prog X.w) X.A (.compLoop (.SetComp elt [⟨tg, iter, [], 0⟩] scope pos) 0 (.ref it) (.ref D) ce) (compPost (model X.prog X.w) X.A X.xe use Qf (.ref D) s3.heap.objs.size) s4 := by
    refine PpSet.compLoopS_any (fun n s' => ∃ i H', Inv (X.blk s3 H3 scope ce fp) [] (wipe σ (own.map (·.2))) H' s' ∧ tn i s'.heap ∧ (∀ b ∈ fp, H' b = none) ∧ N i n H') ?_ m0 ⟨0, H3, I4, st4, noFp, n0⟩
    rintro n s5 ⟨i, H5, I5, st5, n5, w5⟩
    rcases turn i n H5 w5 with ⟨stop, qq⟩ | ⟨go, Z, hZ, step⟩
    · have td := T.done (X.blk s3 H3 scope ce fp) rfl rfl rfl hc i [] s5 _ H5 (fun _ _ => False) I5 (stay I5 n5) st5 stop
      refine thnF td fun r s6 ⟨hr, I6⟩ => ?_
      subst hr
      have back : Inv X pins σ H5 s6 := I3.call' (ch := fp) I6.os I6.base I6.hok I6.bare fun b hb => ⟨(f3 b hb).1.2.2.2.1, (f3 b hb).1.2.1, (f3 b hb).1.2.2.2.2.1, (f3 b hb).1.2.2.2.2.2⟩
      have nC : H5 s3.heap.objs.size = none := by
        have z : H5 ce.locals = none := I6.free
        rwa [ceL] at z
      obtain ⟨m, hn, _⟩ := I6.loc
      have hn : s6.heap.Ns ce.locals m := hn
      rw [ceL] at hn
      exact fin D s3.heap.objs.size s6 m H5 back qq hn (I3.fpOk (Nat.le_refl _) nC)
    · have ti := T.item (X.blk s3 H3 scope ce fp) rfl rfl rfl hc i [] s5 _ H5 (fun _ _ => False) I5 (stay I5 n5) st5 go
      refine thnF ti fun r s6 ⟨u, hr, h6⟩ => ?_
      subst hr
      refine thnF h6 fun _ s7 ⟨x, H7, I7, r7, y7, st7, n7⟩ => ?_
      have pinned := I7.pinned (stay I7 n7) (T.obj _ _ st7)
      refine thnF (pg.run _ s7 _ H7 x u _ pinned r7 (step x H7 y7)) fun _ s8 ⟨σ8, H8, I8, hw8, q8⟩ => ?_
      rw [List.forIn_nil]
      refine wpAny_pure ?_
      simp only [if_true]
      refine thnF (pe.run _ s8 σ8 H8 _ I8 q8) fun z s10 ⟨yv, H10, I10, r10, c, S0, k0, ey, hD10, hz10, nx⟩ => ?_
      subst ey
      refine addK_ok (X := X.blk s3 H3 scope ce fp) I10 hD10 hz10 r10 fun s11 I11 => ?_
      obtain ⟨m', hm, w'⟩ := hZ _ nx
      have pin' : ∀ b ∈ fp, ∀ o, s7.heap.get? b = some o → s11.heap.get? b = some o ∧ (upd H10 D (SetK X.prog X.w D (fun j => S0 j || decide (j = .inr c)) (if S0 (.inr c) = true then k0 else k0 + 1))) b = none := fun b hb o e =>
        let z := I11.pin (b, o) (List.mem_append_right _ (List.mem_append_right _ (mem_pinsAt hb e)))
        ⟨z.1, z.2.1⟩
      have hl : (wipe σ (own.map (·.2))).length = σ8.length := by rw [← hw8, wipe_length]
      refine ⟨m', hm, i + 1, _, (I11.unpinned (pins := [])).weak hl (fun j v e => ?_), T.keep _ _ _ st7 fun b hb o e => (pin' b hb o e).1, fun b hb => ?_, w'⟩
      · rw [← hw8] at e
        exact (wipe_some e).1
      · obtain ⟨o, e, _⟩ := T.obj _ _ st7 b hb
        exact (pin' b hb o e).2
  exact PpSet.codeAny_compStart_set loop (T.self X.A 0 _ _ _ st4 loop)
/-- len of it -/
def tLenSk (P : Program) (w : World) (wi : TI) (g : TG) (te : TE) (vs : List Nat) : TE := fun σ H Q => tSk P w wi g te vs σ H fun v H1 => ∃ D S n, v = .ref D ∧ H1 D = some (SetK P w D S n) ∧ n < 1000000000 ∧ Q (.int (n : Nat)) H1
theorem pe_lenSk {elt tg iter : Expr} {scope : Scope} {own : List (PySem.Str × Nat)} {p cpos pos : Pos} {wi : TI} {g : TG} {te : TE} (hc : X.calm = true) (hgl : Gl X "len") (hm : X.mg "len" = none) (hN : X.N.Nodup) (hi : PI X tg iter wi) (ok : BlkOk X.N X.env.scope scope own)
    (hg : ∀ (s : Shared) (H : Hp) (C : Addr) (cl : List (PySem.Str × Addr)) (fp : List Addr), PG (X.blk s H scope (compEnvC scope cl C X.env) fp) tg g)
    (he : ∀ (s : Shared) (H : Hp) (C : Addr) (cl : List (PySem.Str × Addr)) (fp : List Addr), PE (X.blk s H scope (compEnvC scope cl C X.env) fp) elt te) (hs : ∀ x, foldedSetIterable iter X.env x = pure x := by intro _; rfl) :
    PE X (.Call (.Name "len" p) [.SetComp elt [⟨tg, iter, [], 0⟩] scope cpos] [] pos) (tLenSk X.prog X.w wi g te (own.map (·.2))) := by
  have pc : PE X (.SetComp elt [⟨tg, iter, [], 0⟩] scope cpos) (tSk X.prog X.w wi g te (own.map (·.2))) := by
    refine ⟨fun pins s σ H Q I h => ?_⟩
    rw [PpSet.eval_SetComp]
    refine sk_core hc hN I hi ok hg he hs h fun D C s' m H' I' q hn f => ⟨m, hn, fun h'' sb => ?_⟩
    obtain ⟨f0, f1, f2, f3, f4, f5⟩ := f
    exact ⟨.ref D, H', I'.turned (t' := s'.toks) (fun b o hb e => (sb.2 b hb).trans e) f0 f1 f3 f4 f5, rfl, q⟩
  refine ⟨fun pins s σ H Q I h => ?_⟩
  refine Call_ (ld_blt I hgl hm boot_len ?_)
  refine PyProof.Rows.callWith_builtin1 (PyProof.Rows.args_cons (thn (pc.run pins s σ H _ I h) fun v s1 ⟨x, H1, I1, r1, D, S, n, ex, hD, hn, q⟩ => ?_) rfl) rfl rfl
  subst ex
  obtain rfl : v = Value.ref D := r1
  refine PyProof.Rows.args_nil ?_
  obtain ⟨o, es, ep, t, ho, hex, hd, _, _, _, hf, hz⟩ := setK_get I1 hD
  refine call_len_set ho hex hd hf (by rw [hz]; omega) ⟨.int (n : Nat), H1, I1.tok _, ⟨_, by rw [hz]⟩, q⟩
end
/-! ### its function of data -/
open Classical
/-- the unlike ones -/
def dedL (l : List Str) : List Str := l.foldl (fun a x => if a.contains x = true then a else a ++ [x]) []
theorem dedL_snoc (l : List Str) (x : Str) : dedL (l ++ [x]) = if (dedL l).contains x = true then dedL l else dedL l ++ [x] := by
  unfold dedL
  rw [List.foldl_append]
  rfl
theorem dedL_len (l : List Str) : (dedL l).length ≤ l.length := by
  have key : ∀ (l a : List Str), (l.foldl (fun a x => if a.contains x = true then a else a ++ [x]) a).length ≤ a.length + l.length := by
    intro l
    induction l with
    | nil => intro a; exact Nat.le_refl _
    | cons x l ih =>
      intro a
      rw [List.foldl_cons, List.length_cons]
      have := ih (if a.contains x = true then a else a ++ [x])
      have h2 : (if a.contains x = true then a else a ++ [x]).length ≤ a.length + 1 := by
        split
        · omega
        · rw [List.length_append]
          exact Nat.le_refl _
      omega
  have := key l []
  rw [List.length_nil, Nat.zero_add] at this
  exact this
def memK (l : List Str) (j : Key) : Bool := l.any fun x => decide (j = .inr x)
theorem memK_in {l : List Str} {x : Str} : memK l (.inr x) = l.contains x := by
  unfold memK
  rw [Bool.eq_iff_iff, List.any_eq_true, List.contains_iff_mem]
  constructor
  · rintro ⟨y, hy, e⟩
    have e := of_decide_eq_true e
    cases e
    exact hy
  · exact fun h => ⟨x, h, decide_eq_true rfl⟩
theorem memK_snoc {l : List Str} {x : Str} {j : Key} : memK (dedL (l ++ [x])) j = (memK (dedL l) j || decide (j = .inr x)) := by
  rw [dedL_snoc]
  split
  · rename_i h
    by_cases e : j = .inr x
    · subst e
      rw [memK_in, h]
      rfl
    · rw [decide_eq_false e, Bool.or_false]
  · unfold memK
    rw [List.any_append]
    simp
noncomputable def skL (g : MG) (e : MX) (δ0 : Env) (gd : Option (Nat × MO)) : List Dt → List Str → Mem → R Dt
  | [], acc, μ => if okG gd μ then .ok (.int ((dedL acc).length : Nat)) μ else .no
  | d :: ds, acc, μ => if okG gd μ then (match g d δ0 μ with
    | none => .no
    | some δ1 => (match e δ1 μ with
      | .ok (.str x) μ2 => skL g e δ0 gd ds (acc ++ [x]) μ2
      | _ => .no)) else .no
/-- len({e for .. in ..}) -/
noncomputable def mLenSk (mi : MI) (g : MG) (e : MX) (vs : List Nat) : MX := fun δ μ => (mi δ μ).bind fun s μ1 => if s.1.length ≤ 4000 then skL g e (wipeD δ vs) s.2 s.1 [] μ1 else .no
section
variable {Γ : Gm} {W : WX}
theorem ev_lenSk {P : Program} {w : World} {wi : TI} {mi : MI} {tg : TG} {g : MG} {te : TE} {me : MX} {vs : List Nat} (hi : IV Γ W wi mi) (hg : GV tg g) (hl : GL tg vs) (he' : EV Γ W0 te me) : EV Γ W (tLenSk P w wi tg te vs) (mLenSk mi g me vs) := fun σ H Q ⟨ω, δ, μ, hΓ, he, hw, h⟩ =>
  hi σ H _ ⟨ω, δ, μ, hΓ, he, hw, by
    unfold mLenSk at h
    cases e0 : mi δ μ with
    | no => rw [e0] at h; exact h
    | ex n ns es μ => rw [e0] at h; exact h
    | ok s μ1 =>
      rw [e0] at h
      have h : GoE Rp W ω σ (if s.1.length ≤ 4000 then skL g me (wipeD δ vs) s.2 s.1 [] μ1 else .no) Q := h
      split at h
      case isFalse => exact h.elim
      rename_i hlen
      obtain ⟨ds, gd⟩ := s
      have hlen : ds.length ≤ 4000 := hlen
      intro J ω1 H1 l1 w1 y D hD
      have FD : ω1.F D = none := w1.fr.free hD
      have BD : ω1.B D = none := w1.x.free hD
      have FF : ω1.F = ω.F := l1.f
      have cont0 : SetK P w D (memK (dedL [])) (dedL []).length = SetK P w D (fun _ => false) 0 := rfl
      refine ⟨fun i m H => m = ds.length - i ∧ i ≤ ds.length ∧ ∃ ω2 μ2 acc, Le0 ω1 ω2 ∧ ω2.F = upd ω1.F D (SetK P w D (memK (dedL acc)) (dedL acc).length) ∧ WR ω2 μ2 H ∧ acc.length ≤ i ∧ GoE Rp W ω σ (skL g me (wipeD δ vs) gd (ds.drop i) acc μ2) Q,
        ⟨ds.length, rfl, Nat.zero_le _, { ω1 with F := upd ω1.F D (SetK P w D (fun _ => false) 0) }, μ1, [], ⟨rfl, fun _ _ h => h, Same.refl _⟩, rfl, ?_, Nat.le_refl _, h⟩, ?_⟩
      · refine ⟨same_hid w1.x BD, w1.len, w1.inj, fun i a o h1 e => ?_, same_upd2 w1.fr, fun i a h1 => (upd_ne (w1.fresh hD h1)).trans (w1.fa i a h1), fun a o e => ?_⟩
        · exact (w1.at_ i a o h1 e).move0 ⟨rfl, fun _ _ h => h, Same.refl _⟩ (upd_ne (w1.fresh hD h1)) fun z => z
        · by_cases ha : a = D
          · have e : upd ω1.F D (SetK P w D (fun _ => false) 0) a = some o := e
            rw [ha, upd_same] at e
            cases e
            rw [ha]
            exact ⟨BD, .inr (.inl ⟨_, rfl⟩)⟩
          · have e : upd ω1.F D (SetK P w D (fun _ => false) 0) a = some o := e
            rw [upd_ne ha] at e
            exact w1.fb a o e
      · rintro i m H ⟨rfl, hi, ω2, μ2, acc, l2, f2, w2, han, h2⟩
        have F2 : ω2.F D = some (SetK P w D (memK (dedL acc)) (dedL acc).length) := by rw [f2, upd_same]
        by_cases hlt : i < ds.length
        · have hd : ds[i]? = some ds[i] := List.getElem?_eq_getElem hlt
          rw [List.drop_eq_getElem_cons hlt] at h2
          unfold skL at h2
          split at h2
          case isFalse => exact h2.elim
          rename_i hok
          obtain ⟨hgo, hyl⟩ := (y i ω2 μ2 H l2 w2 hok).2 _ hd
          refine .inr ⟨hgo, fun H' => ∃ ω2 μ2 acc, Le0 ω1 ω2 ∧ ω2.F = upd ω1.F D (SetK P w D (memK (dedL acc)) (dedL acc).length) ∧ WR ω2 μ2 H' ∧ acc.length ≤ i + 1 ∧ GoE Rp W ω σ (skL g me (wipeD δ vs) gd (ds.drop (i + 1)) acc μ2) Q, fun H' z => ⟨ds.length - (i + 1), by omega, rfl, hlt, z⟩, fun x H' hx => ?_⟩
          obtain ⟨ω3, l3, w3, r3⟩ := hyl x H' hx
          have e3 : EnvR ω3 (wipe σ vs) (wipeD δ vs) := (he.mono0 ((l1.to0.trans l2).trans l3.to0)).wipe vs
          cases eg : g ds[i] (wipeD δ vs) μ2 with
          | none => rw [eg] at h2; exact h2.elim
          | some δ1 =>
            rw [eg] at h2
            have z := hl x (wipe σ vs) H' (fun σ2 H2 => te σ2 H2 fun y H4 => ∃ (c : Str) (S : Key → Bool) (n : Nat), y = .str c ∧ H4 D = some (SetK P w D S n) ∧ n + 1 < scanBound ∧ (fun H' => ∃ ω2 μ2 acc, Le0 ω1 ω2 ∧ ω2.F = upd ω1.F D (SetK P w D (memK (dedL acc)) (dedL acc).length) ∧ WR ω2 μ2 H' ∧ acc.length ≤ i + 1 ∧ GoE Rp W ω σ (skL g me (wipeD δ vs) gd (ds.drop (i + 1)) acc μ2) Q) (upd H4 D (SetK P w D (fun j => S j || decide (j = .inr c)) (if S (.inr c) = true then n else n + 1)))) ?_
            · rw [wipe_wipe] at z
              exact z
            · refine hg ω3 μ2 H' x _ (wipe σ vs) (wipeD δ vs) δ1 _ w3 r3 e3 eg fun σ4 ω4 H4 l4 w4 e4 => ?_
              have l14 : Le0 ω1 ω4 := (l2.trans l3.to0).trans l4.to0
              have f4 : ω4.F = upd ω1.F D (SetK P w D (memK (dedL acc)) (dedL acc).length) := (l4.f.trans l3.f).trans f2
              refine he' σ4 H4 _ ⟨ω4, δ1, μ2, l14.g.trans (l1.g.trans hΓ), e4, w4, ?_⟩
              have h2 : GoE Rp W ω σ (match me δ1 μ2 with
                | .ok (.str x) μ2 => skL g me (wipeD δ vs) gd (ds.drop (i + 1)) (acc ++ [x]) μ2
                | _ => .no) Q := h2
              cases em : me δ1 μ2 with
              | no => rw [em] at h2; exact h2.elim
              | ex n ns es μ => rw [em] at h2; exact h2.elim
              | ok yd μ4 =>
                rw [em] at h2
                intro yv ω6 H6 l6 w6 r6
                cases yd with
                | str x0 =>
                  cases r6
                  have h2 : GoE Rp W ω σ (skL g me (wipeD δ vs) gd (ds.drop (i + 1)) (acc ++ [x0]) μ4) Q := h2
                  have f6 : ω6.F = upd ω1.F D (SetK P w D (memK (dedL acc)) (dedL acc).length) := l6.f.trans f4
                  have F6 : ω6.F D = some (SetK P w D (memK (dedL acc)) (dedL acc).length) := by rw [f6, upd_same]
                  have B6 : ω6.B D = none := (w6.fb D _ F6).1
                  have ne6 : ∀ {i : Nat} {a : Addr}, ω6.α[i]? = some a → a ≠ D := fun {i a} h z => by
                    have q := w6.fa i a h
                    rw [z, F6] at q
                    cases q
                  have cont : SetK P w D (fun j => memK (dedL acc) j || decide (j = .inr x0)) (if memK (dedL acc) (.inr x0) = true then (dedL acc).length else (dedL acc).length + 1) = SetK P w D (memK (dedL (acc ++ [x0]))) (dedL (acc ++ [x0])).length := by
                    congr 1
                    · funext j
                      rw [memK_snoc]
                    · rw [memK_in, dedL_snoc]
                      split
                      · rfl
                      · rw [List.length_append]
                        rfl
                  refine ⟨x0, memK (dedL acc), (dedL acc).length, rfl, w6.fr D _ F6, ?_, ?_⟩
                  · have := dedL_len acc
                    unfold scanBound
                    omega
                  · have hU : ∃ p, SetK P w D (memK (dedL (acc ++ [x0]))) (dedL (acc ++ [x0])).length = .ext p := ⟨_, rfl⟩
                    refine cont ▸ ?_
                    generalize hUe : SetK P w D (memK (dedL (acc ++ [x0]))) (dedL (acc ++ [x0])).length = U at hU
                    refine ⟨{ ω6 with F := upd ω1.F D U }, μ4, acc ++ [x0], l14.trans (l6.to0.trans ⟨rfl, fun _ _ h => h, Same.refl _⟩), by rw [hUe], ?_, by rw [List.length_append, List.length_singleton]; omega, h2⟩
                    refine ⟨same_hid w6.x B6, w6.len, w6.inj, fun i a o h1 e => ?_, fun a o e => ?_, fun i a h1 => ?_, fun a o e => ?_⟩
                    · exact (w6.at_ i a o h1 e).move0 ⟨rfl, fun _ _ h => h, Same.refl _⟩ (upd_ne (ne6 h1)) fun z => z
                    · by_cases ha : a = D
                      · have e : upd ω1.F D U a = some o := e
                        rw [ha, upd_same] at e
                        cases e
                        rw [ha, upd_same]
                      · have e : upd ω1.F D U a = some o := e
                        rw [upd_ne ha] at e ⊢
                        exact w6.fr a o (by rw [f6, upd_ne ha]; exact e)
                    · show upd ω1.F D U a = none
                      rw [upd_ne (ne6 h1)]
                      have q := w6.fa i a h1
                      rw [f6, upd_ne (ne6 h1)] at q
                      exact q
                    · by_cases ha : a = D
                      · have e : upd ω1.F D U a = some o := e
                        rw [ha, upd_same] at e
                        cases e
                        rw [ha]
                        exact ⟨B6, .inr (.inl hU)⟩
                      · have e : upd ω1.F D U a = some o := e
                        rw [upd_ne ha] at e
                        exact w6.fb a o (by rw [f6, upd_ne ha]; exact e)
                | _ => exact h2.elim
        · have ei : i = ds.length := by omega
          subst ei
          rw [List.drop_length] at h2
          unfold skL at h2
          split at h2
          case isFalse => exact h2.elim
          rename_i hok
          have sF : Same ω.F ω2.F := by
            rw [f2, ← FF]
            exact same_upd FD
          have l02 : Le0 ω2 { ω2 with F := ω.F } := ⟨rfl, fun _ _ h => h, Same.refl _⟩
          have l2' := (l1.to0.trans l2).trans l02
          have hdl := dedL_len acc
          exact .inl ⟨(y _ ω2 μ2 H l2 w2 hok).1 (Nat.le_refl _), D, _, _, rfl, w2.fr D _ F2, by omega, h2 _ _ _ ⟨l2'.g, l2'.a, l2'.b, rfl⟩ (w2.reF sF) (.int _)⟩⟩
end
end DM

set_option linter.all false
set_option maxRecDepth 100000
set_option maxHeartbeats 4000000
/-! DML: dict comprehensions. -/
namespace DM
open PySem PySem.Spec PyProof.Rows L2
open Classical
theorem WR.oldD {ω : Wd} {μ : Mem} {H : Hp} {D : Addr} {acc : List (Key × V)} {ys : List (Key × Dt)} (w : WR ω μ H) (hn : ∀ (i : Nat) (a : Addr), ω.α[i]? = some a → a ≠ D) (hF : ω.F D = none) (hB : ω.B D = none) (hD : H D = some (.dK acc)) (r : RpK ω acc ys) :
    Le ω { ω with α := ω.α ++ [D] } ∧ WR { ω with α := ω.α ++ [D] } (μ ++ [.dK ys]) H ∧ (ω.α ++ [D])[μ.length]? = some D := by
  have l : Le ω { ω with α := ω.α ++ [D] } := ⟨rfl, fun i a h => by
    show (ω.α ++ [D])[i]? = some a
    rw [List.getElem?_append_left (List.getElem?_eq_some_iff.mp h).1]
    exact h, Same.refl _, rfl⟩
  have at_last : ∀ (i : Nat) (a : Addr), (ω.α ++ [D])[i]? = some a → ω.α[i]? = some a ∨ (i = ω.α.length ∧ a = D) := fun i a q => by
    by_cases hi : i < ω.α.length
    · rw [List.getElem?_append_left hi] at q
      exact .inl q
    · have h2 := (List.getElem?_eq_some_iff.mp q).1
      rw [List.length_append, List.length_singleton] at h2
      have e : i = ω.α.length := by omega
      subst e
      rw [List.getElem?_append_right (Nat.le_refl _), Nat.sub_self] at q
      exact .inr ⟨rfl, by simpa using q.symm⟩
  refine ⟨l, ⟨w.x, by simp [w.len], fun i j a h1 h2 => ?_, fun i a o' h1 e => ?_, w.fr, fun i a h1 => (at_last i a h1).elim (w.fa i a) fun z => by rw [z.2]; exact hF, w.fb⟩, ?_⟩
  · rcases at_last i a h1 with q1 | ⟨q1, e1⟩
    · rcases at_last j a h2 with q2 | ⟨q2, e2⟩
      · exact w.inj i j a q1 q2
      · exact absurd e2 (hn i a q1)
    · rcases at_last j a h2 with q2 | ⟨q2, e2⟩
      · exact absurd e1 (hn j a q2)
      · rw [q1, q2]
  · rcases at_last i a h1 with q1 | ⟨q1, e1⟩
    · have hi : i < μ.length := by
        rw [← w.len]
        exact (List.getElem?_eq_some_iff.mp q1).1
      rw [List.getElem?_append_left hi] at e
      exact (w.at_ i a o' q1 e).move l rfl fun z => z
    · subst e1
      rw [q1, w.len, List.getElem?_append_right (Nat.le_refl _), Nat.sub_self] at e
      cases e
      exact ⟨hB, acc, hD, r.mono l⟩
  · rw [← w.len, List.getElem?_append_right (Nat.le_refl _), Nat.sub_self]
    rfl
theorem putKD_len {kvs : List (Key × Dt)} {k : Key} {v : Dt} : (putKD kvs k v).length ≤ kvs.length + 1 := by
  unfold putKD
  split
  · simp
  · simp
theorem keyD_V {ω : Wd} {v : V} {d : Dt} {k : Key} (r : Rp ω v d) (h : keyD d = some k) : v = kV k := by
  cases r <;> first | (cases h; rfl) | (cases h)
noncomputable def dcL (g : MG) (kx e : MX) (δ0 : Env) (gd : Option (Nat × MO)) : List Dt → List (Key × Dt) → Mem → R Dt
  | [], acc, μ => if okG gd μ then .ok (.ptr μ.length) (μ ++ [.dK acc]) else .no
  | d :: ds, acc, μ => if okG gd μ then (match g d δ0 μ with
    | none => .no
    | some δ1 => (match kx δ1 μ with
      | .ok kd μ2 => (match keyD kd with
        | some k => (match e δ1 μ2 with
          | .ok y μ3 => dcL g kx e δ0 gd ds (putKD acc k y) μ3
          | _ => .no)
        | none => .no)
      | _ => .no)) else .no
/-- {k: e for ..}, a new dict -/
noncomputable def mDc (mi : MI) (g : MG) (kx e : MX) (vs : List Nat) : MX := fun δ μ => (mi δ μ).bind fun s μ1 => if s.1.length ≤ 4000 then dcL g kx e (wipeD δ vs) s.2 s.1 [] μ1 else .no
section
variable {Γ : Gm} {W : WX}
theorem ev_dc {wi : TI} {mi : MI} {tg : TG} {g : MG} {tk te : TE} {mk me : MX} {vs : List Nat} (hi : IV Γ W wi mi) (hg : GV tg g) (hl : GL tg vs) (hk' : EV Γ W0 tk mk) (he' : EV Γ W0 te me) : EV Γ W (tDc wi tg tYes tk te vs) (mDc mi g mk me vs) := fun σ H Q ⟨ω, δ, μ, hΓ, he, hw, h⟩ =>
  hi σ H _ ⟨ω, δ, μ, hΓ, he, hw, by
    unfold mDc at h
    cases e0 : mi δ μ with
    | no => rw [e0] at h; exact h
    | ex n ns es μ => rw [e0] at h; exact h
    | ok s μ1 =>
      rw [e0] at h
      have h : GoE Rp W ω σ (if s.1.length ≤ 4000 then dcL g mk me (wipeD δ vs) s.2 s.1 [] μ1 else .no) Q := h
      split at h
      case isFalse => exact h.elim
      rename_i hlen
      obtain ⟨ds, gd⟩ := s
      have hlen : ds.length ≤ 4000 := hlen
      intro J ω1 H1 l1 w1 y D hD
      have FD : ω1.F D = none := w1.fr.free hD
      have BD : ω1.B D = none := w1.x.free hD
      have FF : ω1.F = ω.F := l1.f
      refine ⟨fun i m H => m = ds.length - i ∧ i ≤ ds.length ∧ ∃ ω2 μ2 va acc, Le0 ω1 ω2 ∧ ω2.F = upd ω1.F D (.dK va) ∧ WR ω2 μ2 H ∧ RpK ω2 va acc ∧ acc.length ≤ i ∧ va.length = acc.length ∧ GoE Rp W ω σ (dcL g mk me (wipeD δ vs) gd (ds.drop i) acc μ2) Q,
        ⟨ds.length, rfl, Nat.zero_le _, { ω1 with F := upd ω1.F D (.dK []) }, μ1, [], [], ⟨rfl, fun _ _ h => h, Same.refl _⟩, rfl, ?_, .nil, Nat.le_refl _, rfl, h⟩, ?_⟩
      · refine ⟨same_hid w1.x BD, w1.len, w1.inj, fun i a o h1 e => ?_, same_upd2 w1.fr, fun i a h1 => (upd_ne (w1.fresh hD h1)).trans (w1.fa i a h1), fun a o e => ?_⟩
        · exact (w1.at_ i a o h1 e).move0 ⟨rfl, fun _ _ h => h, Same.refl _⟩ (upd_ne (w1.fresh hD h1)) fun z => z
        · by_cases ha : a = D
          · have e : upd ω1.F D (.dK []) a = some o := e
            rw [ha, upd_same] at e
            cases e
            rw [ha]
            exact ⟨BD, .inr (.inr ⟨_, rfl⟩)⟩
          · have e : upd ω1.F D (.dK []) a = some o := e
            rw [upd_ne ha] at e
            exact w1.fb a o e
      · rintro i m H ⟨rfl, hi, ω2, μ2, va, acc, l2, f2, w2, r2, han, hva, h2⟩
        have F2 : ω2.F D = some (.dK va) := by rw [f2, upd_same]
        by_cases hlt : i < ds.length
        · have hd : ds[i]? = some ds[i] := List.getElem?_eq_getElem hlt
          rw [List.drop_eq_getElem_cons hlt] at h2
          unfold dcL at h2
          split at h2
          case isFalse => exact h2.elim
          rename_i hok
          obtain ⟨hgo, hyl⟩ := (y i ω2 μ2 H l2 w2 hok).2 _ hd
          refine .inr ⟨hgo, fun H' => ∃ ω2 μ2 va acc, Le0 ω1 ω2 ∧ ω2.F = upd ω1.F D (.dK va) ∧ WR ω2 μ2 H' ∧ RpK ω2 va acc ∧ acc.length ≤ i + 1 ∧ va.length = acc.length ∧ GoE Rp W ω σ (dcL g mk me (wipeD δ vs) gd (ds.drop (i + 1)) acc μ2) Q, fun H' z => ⟨ds.length - (i + 1), by omega, rfl, hlt, z⟩, fun x H' hx => ?_⟩
          obtain ⟨ω3, l3, w3, r3⟩ := hyl x H' hx
          have e3 : EnvR ω3 (wipe σ vs) (wipeD δ vs) := (he.mono0 ((l1.to0.trans l2).trans l3.to0)).wipe vs
          cases eg : g ds[i] (wipeD δ vs) μ2 with
          | none => rw [eg] at h2; exact h2.elim
          | some δ1 =>
            rw [eg] at h2
            have z := hl x (wipe σ vs) H' (fun σ2 H2 => tYes σ2 H2 fun b H3 => if b = true then tk σ2 H3 fun y H4 => te σ2 H4 fun z H5 => ∃ kvs k, y = kV k ∧ H5 D = some (.dK kvs) ∧ kvs.length < sizeLine ∧ (fun H' => ∃ ω2 μ2 va acc, Le0 ω1 ω2 ∧ ω2.F = upd ω1.F D (.dK va) ∧ WR ω2 μ2 H' ∧ RpK ω2 va acc ∧ acc.length ≤ i + 1 ∧ va.length = acc.length ∧ GoE Rp W ω σ (dcL g mk me (wipeD δ vs) gd (ds.drop (i + 1)) acc μ2) Q) (upd H5 D (.dK (putK kvs k z))) else (fun H' => ∃ ω2 μ2 va acc, Le0 ω1 ω2 ∧ ω2.F = upd ω1.F D (.dK va) ∧ WR ω2 μ2 H' ∧ RpK ω2 va acc ∧ acc.length ≤ i + 1 ∧ va.length = acc.length ∧ GoE Rp W ω σ (dcL g mk me (wipeD δ vs) gd (ds.drop (i + 1)) acc μ2) Q) H3) ?_
            · rw [wipe_wipe] at z
              exact z
            · refine hg ω3 μ2 H' x _ (wipe σ vs) (wipeD δ vs) δ1 _ w3 r3 e3 eg fun σ4 ω4 H4 l4 w4 e4 => ?_
              have l14 : Le0 ω1 ω4 := (l2.trans l3.to0).trans l4.to0
              have f4 : ω4.F = upd ω1.F D (.dK va) := (l4.f.trans l3.f).trans f2
              have r24 : RpK ω4 va acc := r2.mono0 (l3.to0.trans l4.to0)
              show tYes σ4 H4 _
              refine (show ∀ T : Bool → Hp → Prop, T true H4 → tYes σ4 H4 T from fun T q => q) _ ?_
              show tk σ4 H4 _
              refine hk' σ4 H4 _ ⟨ω4, δ1, μ2, l14.g.trans (l1.g.trans hΓ), e4, w4, ?_⟩
              have h2 : GoE Rp W ω σ (match mk δ1 μ2 with
                | .ok kd μ2 => (match keyD kd with
                  | some k => (match me δ1 μ2 with
                    | .ok y μ3 => dcL g mk me (wipeD δ vs) gd (ds.drop (i + 1)) (putKD acc k y) μ3
                    | _ => .no)
                  | none => .no)
                | _ => .no) Q := h2
              cases ek : mk δ1 μ2 with
              | no => rw [ek] at h2; exact h2.elim
              | ex n ns es μ => rw [ek] at h2; exact h2.elim
              | ok kd μ3 =>
                rw [ek] at h2
                intro kv ω5 H5 l5 w5 r5
                have h2 : GoE Rp W ω σ (match keyD kd with
                  | some k => (match me δ1 μ3 with
                    | .ok y μ3 => dcL g mk me (wipeD δ vs) gd (ds.drop (i + 1)) (putKD acc k y) μ3
                    | _ => .no)
                  | none => .no) Q := h2
                cases ekd : keyD kd with
                | none => rw [ekd] at h2; exact h2.elim
                | some k =>
                  rw [ekd] at h2
                  have ekv := keyD_V r5 ekd
                  have l15 := l14.trans l5.to0
                  have f5 := l5.f.trans f4
                  refine he' σ4 H5 _ ⟨ω5, δ1, μ3, l15.g.trans (l1.g.trans hΓ), e4.mono l5, w5, ?_⟩
                  have h2 : GoE Rp W ω σ (match me δ1 μ3 with
                    | .ok y μ3 => dcL g mk me (wipeD δ vs) gd (ds.drop (i + 1)) (putKD acc k y) μ3
                    | _ => .no) Q := h2
                  cases em : me δ1 μ3 with
                  | no => rw [em] at h2; exact h2.elim
                  | ex n ns es μ => rw [em] at h2; exact h2.elim
                  | ok yd μ4 =>
                    rw [em] at h2
                    intro yv ω6 H6 l6 w6 r6
                    have h2 : GoE Rp W ω σ (dcL g mk me (wipeD δ vs) gd (ds.drop (i + 1)) (putKD acc k yd) μ4) Q := h2
                    have f6 : ω6.F = upd ω1.F D (.dK va) := l6.f.trans f5
                    have F6 : ω6.F D = some (.dK va) := by rw [f6, upd_same]
                    have B6 : ω6.B D = none := (w6.fb D _ F6).1
                    have ne6 : ∀ {i : Nat} {a : Addr}, ω6.α[i]? = some a → a ≠ D := fun {i a} h z => by
                      have q := w6.fa i a h
                      rw [z, F6] at q
                      cases q
                    have r26 : RpK ω6 va acc := r24.mono0 (l5.to0.trans l6.to0)
                    refine ⟨va, k, ekv, w6.fr D _ F6, ?_, ?_⟩
                    · rw [hva]
                      exact Nat.lt_of_le_of_lt (Nat.le_trans han (Nat.le_trans hi hlen)) (by decide)
                    · have hput := RpK.putk (k := k) r6 r26
                      have hpl : (putK va k yv).length = (putKD acc k yd).length := by
                        have := congrArg List.length hput.keys
                        rwa [List.length_map, List.length_map] at this
                      have hpd : (putKD acc k yd).length ≤ i + 1 := Nat.le_trans putKD_len (Nat.succ_le_succ han)
                      generalize putK va k yv = vb at hput hpl ⊢
                      generalize putKD acc k yd = ab at hput hpl hpd h2 ⊢
                      have l67 : Le0 ω6 { ω6 with F := upd ω1.F D (.dK vb) } := ⟨rfl, fun _ _ h => h, Same.refl _⟩
                      refine ⟨{ ω6 with F := upd ω1.F D (.dK vb) }, μ4, vb, ab, l15.trans (l6.to0.trans l67), rfl, ?_, hput.mono0 l67, hpd, hpl, h2⟩
                      refine ⟨same_hid w6.x B6, w6.len, w6.inj, fun i a o h1 e => ?_, fun a o e => ?_, fun i a h1 => ?_, fun a o e => ?_⟩
                      · exact (w6.at_ i a o h1 e).move0 l67 (upd_ne (ne6 h1)) fun z => z
                      · by_cases ha : a = D
                        · have e : upd ω1.F D (.dK vb) a = some o := e
                          rw [ha, upd_same] at e
                          cases e
                          rw [ha, upd_same]
                        · have e : upd ω1.F D (.dK vb) a = some o := e
                          rw [upd_ne ha] at e ⊢
                          exact w6.fr a o (by rw [f6, upd_ne ha]; exact e)
                      · show upd ω1.F D (.dK vb) a = none
                        rw [upd_ne (ne6 h1)]
                        have q := w6.fa i a h1
                        rw [f6, upd_ne (ne6 h1)] at q
                        exact q
                      · by_cases ha : a = D
                        · have e : upd ω1.F D (.dK vb) a = some o := e
                          rw [ha, upd_same] at e
                          cases e
                          rw [ha]
                          exact ⟨B6, .inr (.inr ⟨_, rfl⟩)⟩
                        · have e : upd ω1.F D (.dK vb) a = some o := e
                          rw [upd_ne ha] at e
                          exact w6.fb a o (by rw [f6, upd_ne ha]; exact e)
        · have ei : i = ds.length := by omega
          subst ei
          rw [List.drop_length] at h2
          unfold dcL at h2
          split at h2
          case isFalse => exact h2.elim
          rename_i hok
          have sF : Same ω.F ω2.F := by
            rw [f2, ← FF]
            exact same_upd FD
          have l02 : Le0 ω2 { ω2 with F := ω.F } := ⟨rfl, fun _ _ h => h, Same.refl _⟩
          have l2' := (l1.to0.trans l2).trans l02
          have hB : ω2.B D = none := (w2.fb D _ F2).1
          obtain ⟨l3, w3, e3⟩ := WR.oldD (w2.reF sF) (fun i a h z => by
            have q := w2.fa i a h
            rw [z, F2] at q
            cases q) (by show ω.F D = none; rw [← FF]; exact FD) hB (w2.fr D _ F2) (r2.mono0 l02)
          have l4 : Le ω { ω2 with F := ω.F } := ⟨l2'.g, l2'.a, l2'.b, rfl⟩
          exact .inl ⟨(y _ ω2 μ2 H l2 w2 hok).1 (Nat.le_refl _), h2 _ _ _ (l4.trans l3) w3 (.ptr e3)⟩⟩
end
end DM

set_option linter.all false
set_option maxRecDepth 100000
set_option maxHeartbeats 4000000
/-! DMN: methods of several classes, walks over locked dicts with plain keys, their items, sorted items of an empty dict. -/
namespace DM
open PySem PySem.Spec PyProof.Rows L2
open Classical
/-! ### methods of several classes -/
section
variable {P : Program} {w : World} {K : PySem.W.Frag} {mg : Str → Option Value} {base : Heap} {Γ : Gm} {m : Str}
theorem MethB.lift {cn j k n : Nat} {ks : List Str} {gV : List V → List V → List V} {f : List Dt → Mem → R Dt} (D : MethB P w K mg base Γ m cn j n ks gV f) (h : j ≤ k) : MethB P w K mg base Γ m cn k n ks gV f := by
  obtain ⟨g, fd, ps, gg, c, M, G, hb⟩ := D.ex
  exact ⟨g, fd, ps, gg, c, M, G.mono h, hb⟩
def tblC (rows : List (Nat × (List Dt → Mem → R Dt))) : Nat → Option (List Dt → Mem → R Dt) := fun n => rows.lookup n
theorem tblC_nil {k n : Nat} {ks : List Str} {gV : List V → List V → List V} : ∀ c g, tblC [] c = some g → MethB P w K mg base Γ m c k n ks gV g := fun c g e => nomatch e
theorem tblC_cons {cn j k n : Nat} {ks : List Str} {gV : List V → List V → List V} {f : List Dt → Mem → R Dt} {r : List (Nat × (List Dt → Mem → R Dt))} (D : MethB P w K mg base Γ m cn j n ks gV f) (h : j ≤ k) (q : ∀ c g, tblC r c = some g → MethB P w K mg base Γ m c k n ks gV g) :
    ∀ c g, tblC ((cn, f) :: r) c = some g → MethB P w K mg base Γ m c k n ks gV g := fun c g e => by
  unfold tblC at e
  rw [List.lookup_cons] at e
  cases hc : (c == cn) with
  | true =>
    rw [hc] at e
    have hc := eq_of_beq hc
    subst hc
    cases e
    exact D.lift h
  | false =>
    rw [hc] at e
    exact q c g e
end
/-! ### walks -/
section
variable {Γ : Gm} {W : WX} {ta : TE} {ma : MX}
def miKeysK (a : MX) : MI := fun δ μ => (a δ μ).bind fun x μ1 => match x with
  | .ptr i => (match μ1[i]? with
    | some (.lk kvs) => .ok (kvs.map fun kv => keyDt kv.1, some (i, MO.lk kvs)) μ1
    | _ => .no)
  | _ => .no
theorem iv_keysK (ha : EV Γ W ta ma) : IV Γ W (iKeys ta) (miKeysK ma) := fun σ H Q ⟨ω, δ, μ, hg, he, hw, h⟩ =>
  ha σ H _ ⟨ω, δ, μ, hg, he, hw, GoE.split (f := fun x μ1 => match x with
    | .ptr i => (match μ1[i]? with
      | some (.lk kvs) => .ok (kvs.map fun kv => keyDt kv.1, some (i, MO.lk kvs)) μ1
      | _ => .no)
    | _ => .no) h fun x μ1 v ω1 H1 l1 w1 r1 h1 => by
    cases r1 with
    | ptr hb =>
      rename_i i a
      dsimp only at h1
      split at h1
      · rename_i kvs e
        obtain ⟨o, vs, b1, hx, rk⟩ := w1.at_ _ _ _ hb e
        refine ⟨a, o, rfl, .inl ⟨vs, hx, h1 _ ω1 H1 (Le.refl _) w1 ?_⟩⟩
        intro j ω2 μ2 H2 l2 w2 hok
        have hx2 : H2 a = some (.frz o (.dK vs)) := w2.x _ _ (l2.b _ _ b1)
        have hlen : vs.length = kvs.length := rk.len
        refine ⟨fun hj => ⟨hx2, by rw [hlen]; simpa using hj⟩, fun d hd => ?_⟩
        have hj : j < kvs.length := by
          have := (List.getElem?_eq_some_iff.mp hd).1
          simpa using this
        refine ⟨⟨hx2, by rw [hlen]; exact hj⟩, fun x H3 hy => ?_⟩
        obtain ⟨rfl, k, vv, ek, rfl⟩ := hy
        refine ⟨ω2, Le.refl _, w2, ?_⟩
        have hk : kvs[j]?.map (·.1) = some k := by
          have z := congrArg (fun l => l[j]?) rk.keysT
          simp only [List.getElem?_map] at z
          rw [← z, ek]
          rfl
        rw [List.getElem?_map] at hd
        obtain ⟨kv, ekv, rfl⟩ := Option.map_eq_some_iff.mp hd
        rw [ekv] at hk
        cases hk
        exact keyDt_rp _
      · exact h1.elim
    | _ => exact h1.elim⟩
def miItemsK (a : MX) : MI := fun δ μ => (a δ μ).bind fun x μ1 => match x with
  | .ptr i => (match μ1[i]? with
    | some (.lk kvs) => .ok (kvs.map fun kv => Dt.tup [keyDt kv.1, kv.2], some (i, MO.lk kvs)) μ1
    | _ => .no)
  | _ => .no
theorem iv_itemsK (ha : EV Γ W ta ma) : IV Γ W (iItems ta) (miItemsK ma) := fun σ H Q ⟨ω, δ, μ, hg, he, hw, h⟩ =>
  ha σ H _ ⟨ω, δ, μ, hg, he, hw, GoE.split (f := fun x μ1 => match x with
    | .ptr i => (match μ1[i]? with
      | some (.lk kvs) => .ok (kvs.map fun kv => Dt.tup [keyDt kv.1, kv.2], some (i, MO.lk kvs)) μ1
      | _ => .no)
    | _ => .no) h fun x μ1 v ω1 H1 l1 w1 r1 h1 => by
    cases r1 with
    | ptr hb =>
      rename_i i a
      dsimp only at h1
      split at h1
      · rename_i kvs e
        obtain ⟨o, vs, b1, hx, rk⟩ := w1.at_ _ _ _ hb e
        refine ⟨a, o, vs, rfl, hx, h1 _ ω1 H1 (Le.refl _) w1 ?_⟩
        intro j ω2 μ2 H2 l2 w2 hok
        have hx2 : H2 a = some (.frz o (.dK vs)) := w2.x _ _ (l2.b _ _ b1)
        have rk2 : RpK ω2 vs kvs := rk.mono0 l2
        have hlen : vs.length = kvs.length := rk.len
        refine ⟨fun hj => ⟨hx2, by rw [hlen]; simpa using hj⟩, fun d hd => ?_⟩
        have hj : j < kvs.length := by
          have := (List.getElem?_eq_some_iff.mp hd).1
          simpa using this
        refine ⟨⟨hx2, by rw [hlen]; exact hj⟩, fun x H3 hy => ?_⟩
        obtain ⟨T, k, vv, ek, rfl, hT, rfl⟩ := hy
        obtain ⟨l3, w3⟩ := w2.newB (u := .tup [kV k, vv]) hT
        rw [List.getElem?_map] at hd
        obtain ⟨kv, ekv, rfl⟩ := Option.map_eq_some_iff.mp hd
        have pair : ∀ {vs : List (Key × V)} {ds : List (Key × Dt)}, RpK ω2 vs ds → ∀ {j : Nat} {k : Key} {v : V} {kv : Key × Dt}, vs[j]? = some (k, v) → ds[j]? = some kv → kv.1 = k ∧ Rp ω2 v kv.2 := by
          intro vs ds r
          induction r with
          | nil => intro j k v kv h; simp at h
          | cons a r ih =>
            intro j k v kv h1 h2
            cases j with
            | zero =>
              simp at h1 h2
              obtain ⟨rfl, rfl⟩ := h1
              subst h2
              exact ⟨rfl, a⟩
            | succ j => exact ih (by simpa using h1) (by simpa using h2)
        obtain ⟨e1, e2⟩ := pair rk2 ek ekv
        subst e1
        refine ⟨_, l3, w3, .tup upd_same (.cons ((keyDt_rp _).mono l3) (.cons (e2.mono l3) .nil))⟩
      · exact h1.elim
    | _ => exact h1.elim⟩
end
/-! ### sorted(d.items()), d empty -/
section
variable {X : Cx}
def rItems0 : V → List V → Hp → VK → Prop := fun x xs H Q => ∃ a : Addr, x = .ref a ∧ xs = [] ∧ H a = some (.dK []) ∧ ∀ p, H p = none → Q (.ref p) (upd H p (DX.itemsO p a))
theorem mt_items0 : MtR X "dict.items" rItems0 := by
  intro pins s σ H x xs v us Q I rx rxs h
  obtain ⟨a, rfl, rfl, ha, q⟩ := h
  cases rx
  cases rxs
  obtain ⟨z, hd, vs, rel, o, es, ep, ho, hx, hdat, _⟩ := dk_of I.hok ha
  refine DT.callItems (es := es) (ep := ep) hd ⟨o, ho, hx, hdat⟩ ?_
  have hf : H s.heap.objs.size = none := I.hok.fresh (Nat.le_refl _)
  exact ⟨.ref s.heap.objs.size, upd H s.heap.objs.size (DX.itemsO s.heap.objs.size a), I.laid (t' := s.toks) (fun b u e => Heap.get?_push_of_some _ e) (Nat.le_refl _) (DX.itemsO_ok (Heap.get?_push_size _ rfl)), rfl, q _ hf⟩
def rSortI0 : List V → Hp → VK → Prop := fun vs H Q => ∃ p a : Addr, vs = [.ref p] ∧ H p = some (DX.itemsO p a) ∧ H a = some (.dK []) ∧ ∀ l, H l = none → Q (.ref l) (upd H l (.lst []))
theorem cr_sortI0 (hc : X.calm = true) : CallR X (.builtin "sorted") rSortI0 := by
  intro pins s σ H xs us Q I r h
  obtain ⟨p, a, rfl, hp, ha, q⟩ := h
  obtain rfl := Vals.ref1 r
  have view : s.heap.IsItemsView p a := (show ObjOk X.prog X.w H s.heap p (DX.itemsO p a) from I.hok p _ hp).1
  obtain ⟨z, hd, vs, rel, o, es, ep, ho, hx, hdat, _, hes, _⟩ := dk_of I.hok ha
  have l0 : es.size = 0 := by
    have h1 := hes.length
    have h2 : 0 = vs.length := rel.length
    rw [Array.length_toList] at h1
    omega
  have hh : X.A.handled = none := I.ok.hd hc
  refine DT.sortedI (es := es) (ep := ep) hh view ⟨o, ho, hx, hdat⟩ (by rw [sizeLine_eq]; omega) fun h' tk as hk hlt hl hG => ?_
  obtain rfl : as = [] := List.eq_nil_of_length_eq_zero (by omega)
  have hob : (h'.push { cls := .type "list", data := .seq (([] : List Addr).map Value.ref).toArray }).get? h'.objs.size = some (seqObj "list" ([] : List Value).toArray 0) := Heap.get?_push_size _ rfl
  have kb : ∀ b o, s.heap.get? b = some o → (h'.push { cls := .type "list", data := .seq (([] : List Addr).map Value.ref).toArray }).get? b = some o := fun b o e => Heap.get?_push_of_some _ (hk b o e)
  have ne0 : ∀ b o, h'.get? b = some o → b ≠ h'.objs.size := fun b o e => Nat.ne_of_lt (Heap.lt_size e)
  generalize h'.push { cls := .type "list", data := .seq (([] : List Addr).map Value.ref).toArray } = h2 at hob kb ⊢
  refine wpAny_call_entry PyProof.Rows.slot_list_sort ⟨_, hob, rfl⟩ PyProof.Rows.entry_list_sort
    (SK.plain_sort (s := { s with heap := h2, toks := tk }) (r := fun _ => 0) hob (by decide) (fun h2' => absurd h2' (by decide)) fun ps out o1 o2 o3 => ⟨.none, rfl, ?_⟩) (PyProof.Rows.args_list_sort _)
  show EP X pins σ Q (.ref h'.objs.size) { s with heap := sortedHeap h2 h'.objs.size [] out, toks := tk }
  have hout : out.toList = [] := by
    have : ps = [] := List.Perm.eq_nil o2
    rw [o1, this]
    rfl
  obtain ⟨eF, heF⟩ := PyProof.Rows.sortedHeap_at (vs := ([] : List Value)) (out := out) hob
  have kS : ∀ b o, s.heap.get? b = some o → (sortedHeap h2 h'.objs.size [] out).get? b = some o := fun b o e => (PyProof.Rows.sortedHeap_old (ne0 _ _ (hk b o e)) (Heap.lt_size (kb b o e))).trans (kb b o e)
  have I1 : Inv X pins σ H { s with heap := sortedHeap h2 h'.objs.size [] out, toks := tk } := I.kept (t' := tk) kS
  have hn0 : H h'.objs.size = none := I.hok.fresh (Nat.le_of_lt hlt)
  have I2 : Inv X pins σ (upd H h'.objs.size (.lst [])) { s with heap := sortedHeap h2 h'.objs.size [] out, toks := tk } :=
    I1.take (h' := sortedHeap h2 h'.objs.size [] out) (t' := tk) (fun b ob _ e => e) (I.fpOk (Nat.le_of_lt hlt) hn0) ⟨Nat.zero_le _, out.toList, eF, by rw [hout]; exact .nil, heF⟩
  exact ⟨.ref h'.objs.size, _, I2, rfl, q _ hn0⟩
end
def tSortI0 (K : PySem.W.Frag) (td : TE) : TE := tCB rSortI0 (tCons (tBM0 K "dict" rItems0 td) tNil)
theorem pe_sortI0 {X : Cx} {K : PySem.W.Frag} {e : Expr} {td : TE} {p apos cpos pos : Pos} (hK : X.K = K) (hc : X.calm = true) (hg : Gl X "sorted") (hm : X.mg "sorted" = none) (he : PE X e td) (hbase : attributeBase e "items" X.env (eval e X.env) = eval e X.env := by rfl) (hline : (apos.endLine == cpos.line) = true := by rfl) :
    PE X (.Call (.Name "sorted" p) [.Call (.Attribute e "items" apos) [] [] cpos] [] pos) (tSortI0 K td) := by
  subst hK
  exact pe_callB (cr_sortI0 hc) hg hm (by decide +kernel) (pa_cons (pe_bm0 PySem.F.plainAttrs_dict PySem.F.slot_dict_items PySem.F.type_dict_items mt_items0 he hbase hline) pa_nil)
/-- sorted(d.items()), for an empty d alone -/
def mSortI0 (a : MX) : MX := fun δ μ => (a δ μ).bind fun x μ1 => match x with
  | .ptr i => (match μ1[i]? with
    | some (.dK []) => R.ok (Dt.lst []) μ1
    | _ => .no)
  | _ => .no
theorem ev_sortI0 {Γ : Gm} {W : WX} {K : PySem.W.Frag} {ta : TE} {ma : MX} (ha : EV Γ W ta ma) : EV Γ W (tSortI0 K ta) (mSortI0 ma) := fun σ H Q ⟨ω, δ, μ, hg, he, hw, h⟩ =>
  ha σ H _ ⟨ω, δ, μ, hg, he, hw, GoE.split (f := fun x μ1 => match x with
    | .ptr i => (match μ1[i]? with
      | some (.dK []) => R.ok (Dt.lst []) μ1
      | _ => .no)
    | _ => .no) h fun x μ1 v ω1 H1 l1 w1 r1 h1 => by
    cases r1 with
    | ptr hb =>
      rename_i i a
      dsimp only at h1
      split at h1
      · rename_i e
        obtain ⟨nb, vs, hx, rk⟩ := w1.at_ _ _ _ hb e
        cases rk
        refine ⟨.inr (.inr (.inl ⟨rfl, .inl ⟨[], hx⟩⟩)), a, rfl, rfl, hx, fun p hp => ⟨p, a, rfl, upd_same, (upd_ne (fun z => by rw [z, hp] at hx; cases hx)).trans hx, fun l hl => ?_⟩⟩
        have w2 := w1.newH (u := DX.itemsO p a) hp
        obtain ⟨l3, w3⟩ := w2.newB (u := .lst []) hl
        exact h1 _ _ _ l3 w3 (.lst upd_same .nil)
      · exact h1.elim
    | _ => exact h1.elim⟩
end DM

set_option linter.all false
set_option maxRecDepth 100000
set_option maxHeartbeats 4000000
/-! DS: the steps' functions at given data, for simp: a plain law is shown by unfolding. -/
namespace DM
open PySem PySem.Spec PyProof.Rows L2
open Classical
def tstR (x : Dt) (μ1 : Mem) : R Bool := match x with
  | .bl k => .ok k μ1
  | _ => .no
section
variable {i n m : Nat} {d : Dt} {f g : Dt → Dt → Mem → R Dt} {fu : Dt → Mem → R Dt} {fc : List Dt → Mem → R Dt} {fm : Dt → List Dt → Mem → R Dt} {a b c : MX} {as bs ks : MA} {T : String} {t u : MT} {fs : Dt → Option Int → Option Int → Mem → R Dt} {lo hi : Env → Mem → R (Option Int)} {s v : MS} {tg : MG} {it : MI} {idx : List Nat} {md : List Dt} {δ : Env} {μ : Mem}
@[simp] theorem mV_ap : mV i δ μ = (match δ[i]? with | some (some d) => .ok d μ | _ => .no) := rfl
@[simp] theorem mC_ap : mC d δ μ = .ok d μ := rfl
@[simp] theorem mOp_ap : mOp f a b δ μ = (a δ μ).bind fun x μ1 => (b δ μ1).bind fun y μ2 => f x y μ2 := rfl
@[simp] theorem mUn_ap : mUn fu a δ μ = (a δ μ).bind fu := rfl
@[simp] theorem mNil_ap : mNil δ μ = .ok [] μ := rfl
@[simp] theorem mCons_ap : mCons a as δ μ = (a δ μ).bind fun x μ1 => (as δ μ1).bind fun xs μ2 => .ok (x :: xs) μ2 := rfl
@[simp] theorem mLst_ap : mLst as δ μ = (as δ μ).bind fun ds μ1 => if ds.length ≤ 1000000 then .ok (.lst ds) μ1 else .no := rfl
@[simp] theorem mTup_ap : mTup as δ μ = (as δ μ).bind fun ds μ1 => if ds.length ≤ 1000000 then .ok (.tup ds) μ1 else .no := rfl
@[simp] theorem mNew_ap : mNew as δ μ = (as δ μ).bind fun ds μ1 => if ds.length ≤ 1000000 then .ok (.ptr μ1.length) (μ1 ++ [.lst ds]) else .no := rfl
@[simp] theorem mCB_ap : mCB fc as δ μ = (as δ μ).bind fc := rfl
@[simp] theorem mBM_ap : mBM T fm a as δ μ = (a δ μ).bind fun x μ1 => if tyM T x μ1 = true then (as δ μ1).bind fun ds μ2 => fm x ds μ2 else .no := rfl
@[simp] theorem mAnd_ap : mAnd t u δ μ = (t δ μ).bind fun k μ1 => if k = true then u δ μ1 else .ok false μ1 := rfl
@[simp] theorem mOr_ap : mOr t u δ μ = (t δ μ).bind fun k μ1 => if k = true then .ok true μ1 else u δ μ1 := rfl
@[simp] theorem mNot_ap : mNot t δ μ = (t δ μ).bind fun k μ1 => .ok (!k) μ1 := rfl
@[simp] theorem mYes_ap : mYes δ μ = .ok true μ := rfl
@[simp] theorem mB_ap : mB t δ μ = (t δ μ).bind fun k μ1 => .ok (.bl k) μ1 := rfl
@[simp] theorem mIf_ap : mIf t a b δ μ = (t δ μ).bind fun k μ1 => if k = true then a δ μ1 else b δ μ1 := rfl
@[simp] theorem mSl_ap : mSl fs a lo hi δ μ = (a δ μ).bind fun x μ1 => (lo δ μ1).bind fun l μ2 => (hi δ μ2).bind fun h μ3 => fs x l h μ3 := rfl
@[simp] theorem mNoPart_ap : mNoPart δ μ = .ok none μ := rfl
@[simp] theorem sNext_ap : sNext δ μ = .nx δ μ := rfl
@[simp] theorem sSeq_ap : sSeq s v δ μ = (s δ μ).thn v := rfl
@[simp] theorem sRet_ap : sRet a δ μ = (a δ μ).thn δ fun d μ1 => .rt d μ1 := rfl
@[simp] theorem sRetN_ap : sRetN δ μ = .rt .non μ := rfl
@[simp] theorem sDrop_ap : sDrop a δ μ = (a δ μ).thn δ fun _ μ1 => .nx δ μ1 := rfl
@[simp] theorem sIf_ap : sIf t s v δ μ = (t δ μ).thn δ fun k μ1 => if k = true then s δ μ1 else v δ μ1 := rfl
@[simp] theorem gSet_ap : gSet i d δ μ = some (δ.set i (some d)) := rfl
@[simp] theorem sAsg_name : sAsg a (gSet i) δ μ = (a δ μ).thn δ fun d μ1 => .nx (δ.set i (some d)) μ1 := rfl
@[simp] theorem sFor_ap : sFor it tg s δ μ = (it δ μ).thn δ fun z μ1 => forL tg s z.2 z.1 δ μ1 := rfl
@[simp] theorem sSub_ap : sSub a b c δ μ = (a δ μ).thn δ fun v μ1 => (b δ μ1).thn δ fun ov μ2 => (c δ μ2).thn δ fun iv μ3 => stSub δ v ov iv μ3 := rfl
@[simp] theorem mCall_ap : mCall n m fc idx md as ks δ μ = (as δ μ).bind fun ds μ1 => (ks δ μ1).bind fun es μ2 => if ds.length = n ∧ es.length = m then fc (pm idx (ds ++ md ++ es)) μ2 else .no := rfl
@[simp] theorem miList_ap : miList a δ μ = (a δ μ).bind srcL := rfl
@[simp] theorem miTup_ap : miTup a δ μ = (a δ μ).bind srcT := rfl
@[simp] theorem miStr_ap : miStr a δ μ = (a δ μ).bind srcS := rfl
@[simp] theorem miRng1_ap : miRng1 as δ μ = (as δ μ).bind srcR1 := rfl
@[simp] theorem miRng2_ap : miRng2 as δ μ = (as δ μ).bind srcR2 := rfl
@[simp] theorem miZip_ap : miZip as δ μ = (as δ μ).bind srcZ := rfl
@[simp] theorem miEnum_ap : miEnum as δ μ = (as δ μ).bind srcE := rfl
@[simp] theorem mTest_ap : mTest a δ μ = (a δ μ).bind tstR := rfl
@[simp] theorem tst_bl {k : Bool} : tstR (.bl k) μ = .ok k μ := rfl
end
section
variable {β γ : Type} {a : β} {μ μ1 : Mem} {f : β → Mem → R γ} {g : β → Mem → O} {n : Nat} {ns : List Str} {es ds : List Dt} {δ : Env} {u : MS} {d e : Dt} {i j : Int} {x y : Str} {k l : Bool}
@[simp] theorem bind_ok : (R.ok a μ).bind f = f a μ := rfl
@[simp] theorem bind_ex : (R.ex n ns es μ : R β).bind f = .ex n ns es μ := rfl
@[simp] theorem bind_no : (R.no : R β).bind f = .no := rfl
@[simp] theorem thn_ok : (R.ok a μ).thn δ g = g a μ := rfl
@[simp] theorem thn_ex : (R.ex n ns es μ : R β).thn δ g = .ex n ns es δ μ := rfl
@[simp] theorem thn_no : (R.no : R β).thn δ g = .no := rfl
@[simp] theorem Othn_nx : (O.nx δ μ).thn u = u δ μ := rfl
@[simp] theorem Othn_rt : (O.rt d μ).thn u = .rt d μ := rfl
@[simp] theorem Othn_ex : (O.ex n ns es δ μ).thn u = .ex n ns es δ μ := rfl
@[simp] theorem Othn_bk : (O.bk δ μ).thn u = .bk δ μ := rfl
@[simp] theorem Othn_ct : (O.ct δ μ).thn u = .ct δ μ := rfl
@[simp] theorem noX_ok : (R.ok a μ).noX = .ok a μ := rfl
@[simp] theorem oAdd_int : oAdd (.int i) (.int j) μ = .ok (.int (i + j)) μ := rfl
theorem oAdd_str (h : x.length + y.length ≤ 10000000) : oAdd (.str x) (.str y) μ = .ok (.str (x ++ y)) μ := if_pos h
theorem oAdd_lst (h : ds.length + es.length ≤ 1000000) : oAdd (.lst ds) (.lst es) μ = .ok (.lst (ds ++ es)) μ := if_pos h
@[simp] theorem oSub_int : oSub (.int i) (.int j) μ = .ok (.int (i - j)) μ := rfl
theorem oMul_int (h : CMulW i j) : oMul (.int i) (.int j) μ = .ok (.int (i * j)) μ := if_pos h
theorem oMul_str (h : -1000000000 ≤ i ∧ i ≤ 1000000000 ∧ x.length * i.toNat ≤ 10000000) : oMul (.str x) (.int i) μ = .ok (.str (repS x i)) μ := if_pos h
theorem oMul_lst (h : -1000000000 ≤ i ∧ i ≤ 1000000000 ∧ ds.length * i.toNat ≤ 1000000) : oMul (.lst ds) (.int i) μ = .ok (.lst (List.replicate i.toNat ds).flatten) μ := if_pos h
theorem oMod_int (h : j ≠ 0) : oMod (.int i) (.int j) μ = .ok (.int (i.fmod j)) μ := if_pos h
theorem oFdiv_int (h : CDivN i j) : oFdiv (.int i) (.int j) μ = .ok (.int (i.fdiv j)) μ := if_pos h
theorem oPow_int (h : CPow i j) : oPow (.int i) (.int j) μ = .ok (.int (i ^ j.toNat)) μ := if_pos h
@[simp] theorem oLt_int : oLt (.int i) (.int j) μ = .ok (.bl (decide (i < j))) μ := rfl
@[simp] theorem oLe_int : oLe (.int i) (.int j) μ = .ok (.bl (decide (i ≤ j))) μ := rfl
@[simp] theorem oGt_int : oGt (.int i) (.int j) μ = .ok (.bl (decide (j < i))) μ := rfl
@[simp] theorem oGe_int : oGe (.int i) (.int j) μ = .ok (.bl (decide (j ≤ i))) μ := rfl
@[simp] theorem oIsN_non : oIsN d .non μ = .ok (.bl (isNon d)) μ := rfl
@[simp] theorem oNotN_non : oNotN d .non μ = .ok (.bl (!isNon d)) μ := rfl
@[simp] theorem cLen_lst : cLen [.lst ds] μ = .ok (.int ds.length) μ := rfl
@[simp] theorem cLen_tup : cLen [.tup ds] μ = .ok (.int ds.length) μ := rfl
@[simp] theorem cLen_scr : cLen [.scr ds] μ = .ok (.int ds.length) μ := rfl
theorem cLen_str (h : x.length ≤ 10000000) : cLen [.str x] μ = .ok (.int x.length) μ := if_pos h
@[simp] theorem cInt_int : cInt [.int i] μ = .ok (.int i) μ := rfl
@[simp] theorem cInt_bl : cInt [.bl k] μ = .ok (.int (if k then 1 else 0)) μ := rfl
theorem cAll_map {bs : List Bool} : cAll [.lst (bs.map Dt.bl)] μ = .ok (.bl (bs.all id)) μ := by
  have e : (asL μ (.lst (bs.map Dt.bl))).bind asB = some bs := by
    show (some (bs.map Dt.bl)).bind asB = some bs
    rw [Option.bind_some, asB_map]
  unfold cAll
  simp only [e]
theorem oEq_str : oEq (.str x) (.str y) μ = .ok (.bl (x == y)) μ := by
  simp [oEq, toPM, PyData.eqv]
theorem oNe_str : oNe (.str x) (.str y) μ = .ok (.bl (!(x == y))) μ := by
  simp [oNe, toPM, PyData.eqv]
/-! ### loops -/
theorem forL_run {tg : MG} {body : MS} {ds : List Dt} {δ : Env} {μ : Mem} (P : Nat → Env → Mem → Prop) (h0 : P 0 δ μ)
    (hs : ∀ i d δ μ, ds[i]? = some d → P i δ μ → ∃ δ1 δ' μ', tg d δ μ = some δ1 ∧ body δ1 μ = .nx δ' μ' ∧ P (i + 1) δ' μ') : ∃ δ' μ', forL tg body none ds δ μ = .nx δ' μ' ∧ P ds.length δ' μ' := by
  induction ds generalizing P δ μ with
  | nil => exact ⟨δ, μ, by simp [forL], h0⟩
  | cons d ds ih =>
    obtain ⟨δ1, δ', μ', e1, e2, p⟩ := hs 0 d δ μ rfl h0
    obtain ⟨δ2, μ2, e3, p2⟩ := ih (fun i => P (i + 1)) p fun i d δ μ h => hs (i + 1) d δ μ (by simpa using h)
    exact ⟨δ2, μ2, by simp [forL, e1, e2, e3], p2⟩
/-- .. each of whose turns may return what Z says -/
theorem forL_ret {tg : MG} {body : MS} {ds : List Dt} {δ : Env} {μ : Mem} (P : Nat → Env → Mem → Prop) (Z : Dt → Mem → Prop) (h0 : P 0 δ μ)
    (hs : ∀ i d δ μ, ds[i]? = some d → P i δ μ → ∃ δ1, tg d δ μ = some δ1 ∧ ((∃ δ' μ', body δ1 μ = .nx δ' μ' ∧ P (i + 1) δ' μ') ∨ ∃ r μ', body δ1 μ = .rt r μ' ∧ Z r μ')) :
    (∃ δ' μ', forL tg body none ds δ μ = .nx δ' μ' ∧ P ds.length δ' μ') ∨ ∃ r μ', forL tg body none ds δ μ = .rt r μ' ∧ Z r μ' := by
  induction ds generalizing P δ μ with
  | nil => exact .inl ⟨δ, μ, by simp [forL], h0⟩
  | cons d ds ih =>
    obtain ⟨δ1, e1, h | h⟩ := hs 0 d δ μ rfl h0
    · obtain ⟨δ', μ', e2, p⟩ := h
      rcases ih (fun i => P (i + 1)) p fun i d δ μ h => hs (i + 1) d δ μ (by simpa using h) with ⟨δ2, μ2, e3, p2⟩ | ⟨r, μ2, e3, p2⟩
      · exact .inl ⟨δ2, μ2, by simp [forL, e1, e2, e3], p2⟩
      · exact .inr ⟨r, μ2, by simp [forL, e1, e2, e3], p2⟩
    · obtain ⟨r, μ', e2, p⟩ := h
      exact .inr ⟨r, μ', by simp [forL, e1, e2], p⟩
/-- a comprehension that changes nothing -/
theorem lcL_pure {tg : MG} {nt : MT} {me : MX} {δ : Env} {ds : List Dt} {μ : Mem} (p : Dt → Bool) (F : Dt → Dt)
    (h : ∀ d, d ∈ ds → ∃ δ1, tg d δ μ = some δ1 ∧ nt δ1 μ = .ok (p d) μ ∧ (p d = true → me δ1 μ = .ok (F d) μ)) : lcL tg nt me δ none ds μ = .ok ((ds.filter p).map F) μ := by
  induction ds with
  | nil => simp [lcL]
  | cons d ds ih =>
    obtain ⟨δ1, e1, e2, e3⟩ := h d List.mem_cons_self
    have ih := ih fun d hd => h d (List.mem_cons_of_mem _ hd)
    cases hp : p d with
    | true =>
      have e3 := e3 hp
      simp [lcL, e1, e2, hp, e3, ih]
    | false => simp [lcL, e1, e2, hp, ih]
theorem lcL_map {tg : MG} {me : MX} {δ : Env} {ds : List Dt} {μ : Mem} (F : Dt → Dt) (h : ∀ d, d ∈ ds → ∃ δ1, tg d δ μ = some δ1 ∧ me δ1 μ = .ok (F d) μ) : lcL tg mYes me δ none ds μ = .ok (ds.map F) μ := by
  have := lcL_pure (nt := mYes) (me := me) (tg := tg) (δ := δ) (ds := ds) (μ := μ) (fun _ => true) F fun d hd => let ⟨δ1, e1, e2⟩ := h d hd; ⟨δ1, e1, rfl, fun _ => e2⟩
  rwa [List.filter_eq_self.mpr fun _ _ => rfl] at this
end
end DM

set_option linter.all false
set_option maxRecDepth 100000
set_option maxHeartbeats 4000000
/-! TX: texts as lists of signs: split, join, count, rpartition by one sign. -/
namespace TX
open PySem PySem.Spec PyProof.Rows L2 DM TL
/-- a list of signs as a text -/
def mk (l : List Nat) : Str := ⟨l.toArray⟩
theorem tl_mk' (l : List Nat) : tl (mk l) = l := rfl
theorem mk_tl' (x : Str) : mk (tl x) = x := mk_tl x
theorem mk_inj {a b : List Nat} (h : mk a = mk b) : a = b := congrArg tl h
theorem len_mk (l : List Nat) : (mk l).length = l.length := by rw [len_tl, tl_mk']
/-- parts between the signs c -/
def splitN (c : Nat) : List Nat → List (List Nat)
  | [] => [[]]
  | x :: r => if x = c then [] :: splitN c r else match splitN c r with
    | [] => [[x]]
    | p :: ps => (x :: p) :: ps
theorem splitN_ne (c : Nat) : ∀ l, splitN c l ≠ []
  | [] => by simp [splitN]
  | x :: r => by
    rw [splitN]
    split
    · simp
    · split <;> simp
theorem spl_one (c : Nat) : ∀ (l acc : List Nat), spl [c] 0 acc l = match splitN c l with
    | [] => []
    | p :: ps => (acc ++ p) :: ps
  | [], acc => by simp [spl_nil, splitN]
  | x :: r, acc => by
    by_cases h : x = c
    · subst h
      have hp : pre [x] (x :: r) = true := by simp [pre]
      rw [spl_hit hp, splitN, if_pos rfl]
      show acc :: spl [x] 0 [] r = (acc ++ []) :: splitN x r
      rw [spl_one x r [], List.append_nil]
      cases e : splitN x r with
      | nil => exact absurd e (splitN_ne _ _)
      | cons p ps => rfl
    · have hp : pre [c] (x :: r) = false := pre_of_head [] r h
      rw [spl_miss hp, spl_one c r, splitN, if_neg h]
      cases e : splitN c r with
      | nil => exact absurd e (splitN_ne _ _)
      | cons p ps => simp
theorem split_one {y : Str} {c : Nat} (hy : tl y = [c]) (hc : c < 256) (x : Str) : Txt.split x y = (splitN c (tl x)).map mk := by
  apply map_tl_inj
  have hk : y.cps.all (· < 256) = true := by
    rw [← Array.all_toList]
    show (tl y).all _ = true
    rw [hy]
    simp [hc]
  rw [split_spl x y (by rw [hy]; simp) (kind_ok hk), hy, spl_one, List.map_map]
  have : (tl ∘ mk) = id := rfl
  rw [this, List.map_id]
  cases e : splitN c (tl x) with
  | nil => exact absurd e (splitN_ne _ _)
  | cons p ps => simp
theorem split_count {y : Str} {c : Nat} (hy : tl y = [c]) (hc : c < 256) (x : Str) : ((Txt.split x y).length : Int) = Txt.count x y + 1 := by
  have hk : y.cps.all (· < 256) = true := by
    rw [← Array.all_toList]
    show (tl y).all _ = true
    rw [hy]
    simp [hc]
  have hl : y.length = 1 := by rw [len_tl, hy]; rfl
  unfold Txt.split Txt.count
  by_cases h1 : (decide (x.length < y.length) || decide (Builtin.Str.strKind x < Builtin.Str.strKind y)) = true
  · rw [if_pos h1]
    have hlt : x.length < y.length := by
      simp only [Bool.or_eq_true, decide_eq_true_eq] at h1
      rcases h1 with h | h
      · exact h
      · exact absurd h (kind_ok hk)
    obtain ⟨f, g, hn⟩ := PySem.StrLaws.occ_tight x y (len1 (by rw [hy]; simp))
    cases ho : Builtin.Str.occurrences x y 0 x.length (x.length + 1) with
    | nil => rfl
    | cons k r =>
      rw [ho] at g
      have hc : k + y.length ≤ x.length := g.2.1.1
      omega
  · rw [if_neg h1]
    by_cases h2 : (Builtin.Str.occurrences x y 0 x.length (x.length + 1)).isEmpty = true
    · rw [if_pos h2, List.isEmpty_iff.mp h2]
      rfl
    · rw [if_neg h2, PyProof.Rows.len_partsBetween]
      simp
theorem splitN_len (c : Nat) : ∀ (l : List Nat) (p : List Nat), p ∈ splitN c l → p.length ≤ l.length
  | [], p, h => by
    simp [splitN] at h
    simp [h]
  | x :: r, p, h => by
    rw [splitN] at h
    split at h
    · rcases List.mem_cons.mp h with rfl | h
      · simp
      · exact Nat.le_succ_of_le (splitN_len c r p h)
    · have ih := splitN_len c r
      revert h ih
      cases e : splitN c r with
      | nil => exact absurd e (splitN_ne _ _)
      | cons q ps =>
        intro h ih
        rcases List.mem_cons.mp h with rfl | h
        · have := ih q (List.mem_cons_self ..)
          simp
          exact this
        · exact Nat.le_succ_of_le (ih p (List.mem_cons_of_mem _ h))
theorem splitN_count (c : Nat) : ∀ l : List Nat, (splitN c l).length ≤ l.length + 1
  | [] => by simp [splitN]
  | x :: r => by
    have ih := splitN_count c r
    rw [splitN]
    split
    · simp
      omega
    · revert ih
      cases e : splitN c r with
      | nil => exact absurd e (splitN_ne _ _)
      | cons q ps =>
        intro ih
        simp at ih ⊢
        omega
theorem split_len {y : Str} {c : Nat} (hy : tl y = [c]) (hc : c < 256) {x p : Str} (h : p ∈ Txt.split x y) : p.length ≤ x.length := by
  rw [split_one hy hc] at h
  obtain ⟨q, hq, rfl⟩ := List.mem_map.mp h
  rw [len_mk, len_tl]
  exact splitN_len c _ q hq
theorem split_many {y : Str} {c : Nat} (hy : tl y = [c]) (hc : c < 256) {x : Str} : (Txt.split x y).length ≤ x.length + 1 := by
  rw [split_one hy hc, List.length_map, len_tl]
  exact splitN_count c _
theorem sum_take_le : ∀ (l : List Nat) (i : Nat), (l.take i).sum ≤ l.sum
  | [], i => by simp
  | a :: l, 0 => by simp
  | a :: l, i + 1 => by
    have := sum_take_le l i
    rw [List.take_succ_cons, List.sum_cons, List.sum_cons]
    omega
theorem splitN_sum (c : Nat) : ∀ l : List Nat, ((splitN c l).map List.length).sum ≤ l.length
  | [] => by simp [splitN]
  | x :: r => by
    have ih := splitN_sum c r
    rw [splitN]
    split
    · simp
      omega
    · revert ih
      cases e : splitN c r with
      | nil => exact absurd e (splitN_ne _ _)
      | cons q ps =>
        intro ih
        simp at ih ⊢
        omega
theorem sum_split {y : Str} {c : Nat} (hy : tl y = [c]) (hc : c < 256) (x : Str) (i : Nat) : (((Txt.split x y).take i).map (·.length)).sum ≤ x.length := by
  rw [List.map_take]
  refine Nat.le_trans (sum_take_le _ i) ?_
  rw [split_one hy hc, List.map_map]
  have : ((fun (s : Str) => s.length) ∘ mk) = List.length := by
    funext l
    exact len_mk l
  rw [this, len_tl]
  exact splitN_sum c _
/-- join -/
theorem splitN_free {c : Nat} : ∀ {p : List Nat}, c ∉ p → splitN c p = [p]
  | [], _ => rfl
  | x :: r, h => by
    have h1 : x ≠ c := fun e => h (by rw [e]; exact List.mem_cons_self ..)
    have h2 : c ∉ r := fun e => h (List.mem_cons_of_mem _ e)
    rw [splitN, if_neg h1, splitN_free h2]
theorem splitN_app {c : Nat} : ∀ {p : List Nat} (r : List Nat), c ∉ p → splitN c (p ++ c :: r) = p :: splitN c r
  | [], r, _ => by simp [splitN]
  | x :: p, r, h => by
    have h1 : x ≠ c := fun e => h (by rw [e]; exact List.mem_cons_self ..)
    have h2 : c ∉ p := fun e => h (List.mem_cons_of_mem _ e)
    rw [List.cons_append, splitN, if_neg h1, splitN_app r h2]
theorem splitN_free_all {c : Nat} : ∀ (l : List Nat) (p : List Nat), p ∈ splitN c l → c ∉ p
  | [], p, h => by
    simp [splitN] at h
    simp [h]
  | x :: r, p, h => by
    rw [splitN] at h
    split at h
    · rcases List.mem_cons.mp h with rfl | h
      · simp
      · exact splitN_free_all r p h
    · rename_i hx
      have ih := splitN_free_all (c := c) r
      revert h ih
      cases e : splitN c r with
      | nil => exact absurd e (splitN_ne _ _)
      | cons q ps =>
        intro h ih
        rcases List.mem_cons.mp h with rfl | h
        · have := ih q (List.mem_cons_self ..)
          simp
          exact ⟨fun z => hx z.symm, this⟩
        · exact ih p (List.mem_cons_of_mem _ h)
theorem splitN_join {c : Nat} : ∀ {parts : List (List Nat)}, parts ≠ [] → (∀ p ∈ parts, c ∉ p) → splitN c (joinL [c] parts) = parts
  | [], h, _ => absurd rfl h
  | [p], _, h => by
    show splitN c p = [p]
    exact splitN_free (h p (List.mem_cons_self ..))
  | p :: q :: r, _, h => by
    show splitN c (p ++ c :: joinL [c] (q :: r)) = _
    rw [splitN_app _ (h p (List.mem_cons_self ..)), splitN_join (by simp) fun x hx => h x (List.mem_cons_of_mem _ hx)]
theorem join_splitN (c : Nat) : ∀ l : List Nat, joinL [c] (splitN c l) = l
  | [] => rfl
  | x :: r => by
    have ih := join_splitN c r
    rw [splitN]
    split
    · rename_i hx
      subst hx
      revert ih
      cases e : splitN x r with
      | nil => exact absurd e (splitN_ne _ _)
      | cons q ps =>
        intro ih
        show x :: joinL [x] (q :: ps) = x :: r
        rw [ih]
    · revert ih
      cases e : splitN c r with
      | nil => exact absurd e (splitN_ne _ _)
      | cons q ps =>
        intro ih
        cases ps with
        | nil =>
          show x :: q = x :: r
          rw [show q = r from ih]
        | cons q2 ps =>
          show x :: (q ++ c :: joinL [c] (q2 :: ps)) = x :: r
          rw [← ih]
          rfl
theorem tl_joinT (y : Str) (parts : List Str) : tl (Txt.join y parts) = joinL (tl y) (parts.map tl) := by rw [join_eq, tl_join]
theorem join_mk {y : Str} {c : Nat} (hy : tl y = [c]) (ps : List (List Nat)) : Txt.join y (ps.map mk) = mk (joinL [c] ps) := by
  apply ext_tl
  rw [tl_joinT, hy, List.map_map]
  have : (tl ∘ mk) = id := rfl
  rw [this, List.map_id]
  rfl
theorem joinL_len (c : Nat) : ∀ ps : List (List Nat), (joinL [c] ps).length ≤ (ps.map List.length).sum + ps.length
  | [] => by simp [joinL]
  | [p] => by simp [joinL]
  | p :: q :: r => by
    have ih := joinL_len c (q :: r)
    show (p ++ c :: joinL [c] (q :: r)).length ≤ _
    simp at ih ⊢
    omega
theorem at_one {x y : Str} {c : Nat} (hy : tl y = [c]) (i : Nat) : PySem.StrLaws.At x y x.length i ↔ (tl x)[i]? = some c := by
  rw [at_iff (by rw [hy]; simp), hy]
  unfold pre
  rw [show ([c] : List Nat).length = 1 from rfl]
  constructor
  · intro h
    have h' := beq_iff_eq.mp h
    cases e : (tl x).drop i with
    | nil => rw [e] at h'; cases h'
    | cons z r =>
      rw [e] at h'
      have hz : z = c := by simpa using h'
      subst hz
      have : ((tl x).drop i)[0]? = some z := by rw [e]; rfl
      rwa [List.getElem?_drop, Nat.add_zero] at this
  · intro h
    have : ((tl x).drop i)[0]? = some c := by rwa [List.getElem?_drop, Nat.add_zero]
    cases e : (tl x).drop i with
    | nil => rw [e] at this; cases this
    | cons z r =>
      rw [e] at this
      have hz : z = c := by simpa using this
      subst hz
      simp
theorem rpart_none {x y : Str} {c : Nat} (hy : tl y = [c]) (h : c ∉ tl x) : Txt.rpartition x y = (Str.empty, Str.empty, x) := by
  unfold Txt.rpartition
  rcases PySem.StrLaws.last_spec x y with ⟨e, _⟩ | ⟨i, e, a, _⟩
  · rw [e]
  · exact absurd (List.mem_of_getElem? ((at_one hy i).mp a)) h
theorem rpart_some {x y : Str} {c : Nat} {a b : List Nat} (hy : tl y = [c]) (hx : tl x = a ++ c :: b) (h : c ∉ b) : Txt.rpartition x y = (mk a, y, mk b) := by
  unfold Txt.rpartition
  have hl : y.length = 1 := by rw [len_tl, hy]; rfl
  have ha : PySem.StrLaws.At x y x.length a.length := by
    rw [at_one hy, hx]
    simp
  rcases PySem.StrLaws.last_spec x y with ⟨e, n⟩ | ⟨i, e, at1, n⟩
  · exact absurd ha (n _)
  · have hi : i = a.length := by
      rcases Nat.lt_trichotomy i a.length with l | l | l
      · exact absurd ha (n _ l)
      · exact l
      · exfalso
        rw [at_one hy, hx, List.getElem?_append_right (Nat.le_of_lt l)] at at1
        obtain ⟨k, hk⟩ : ∃ k, i - a.length = k + 1 := ⟨i - a.length - 1, by omega⟩
        rw [hk, List.getElem?_cons_succ] at at1
        exact h (List.mem_of_getElem? at1)
    rw [e]
    subst hi
    show (Builtin.Str.strSub x 0 a.length, y, Builtin.Str.strSub x (a.length + y.length) x.length) = _
    have e1 : Builtin.Str.strSub x 0 a.length = mk a := by
      apply ext_tl
      rw [tl_strSub, hx]
      show ((a ++ c :: b).drop 0).take (a.length - 0) = a
      simp
    have e2 : Builtin.Str.strSub x (a.length + y.length) x.length = mk b := by
      apply ext_tl
      rw [tl_strSub_end, hx, hl]
      show (a ++ c :: b).drop (a.length + 1) = b
      simp
    rw [e1, e2]
theorem cutD_take {α : Type} (l : List α) (n : Nat) : DM.cutD l none (some (n : Int)) = l.take n := by
  unfold DM.cutD
  rw [HT.sIx_none, HT.sIx_nat, List.drop_zero, Nat.sub_zero]
  by_cases h : n ≤ l.length
  · rw [Nat.min_eq_left h]
  · rw [Nat.min_eq_right (by omega), List.take_length, List.take_of_length_le (by omega)]
theorem cutS_len (z : Str) (lo hi : Option Int) : (cutS z lo hi).length ≤ z.length := by
  unfold cutS
  show (List.toArray _).size ≤ z.length
  rw [List.size_toArray, List.length_take, List.length_drop]
  have : z.cps.toList.length = z.length := (len_tl z).symm
  omega
theorem add_len (x y : Str) : (x ++ y).length = x.length + y.length := by rw [len_tl, tl_append, List.length_append, ← len_tl, ← len_tl]
end TX

set_option linter.all false
set_option maxRecDepth 100000
set_option maxHeartbeats 4000000
/-! LM: the laws' drawing, as functions. -/
namespace LM
open PySem PySem.Spec PyProof.Rows L2 DM TL TX
/-- draws, one behind the other -/
def drawL {α β : Type} (f : α → Int → β × Int) : List α → Int → List β × Int
  | [], n => ([], n)
  | x :: r, n => ((f x n).1 :: (drawL f r (f x n).2).1, (drawL f r (f x n).2).2)
theorem drawL_take {α β : Type} (f : α → Int → β × Int) : ∀ (l : List α) (i : Nat) (x : α) (n : Int), l[i]? = some x →
    drawL f (l.take (i + 1)) n = ((drawL f (l.take i) n).1 ++ [(f x (drawL f (l.take i) n).2).1], (f x (drawL f (l.take i) n).2).2)
  | [], i, x, n, h => by simp at h
  | y :: r, 0, x, n, h => by
    simp at h
    subst h
    rfl
  | y :: r, i + 1, x, n, h => by
    rw [List.getElem?_cons_succ] at h
    have ih := drawL_take f r i x (f y n).2 h
    show (_, _) = _
    rw [show (y :: r).take (i + 1) = y :: r.take i from rfl]
    simp only [drawL, List.take_succ_cons, ih]
    rfl
theorem drawL_len {α β : Type} (f : α → Int → β × Int) : ∀ (l : List α) (n : Int), (drawL f l n).1.length = l.length
  | [], _ => rfl
  | x :: r, n => congrArg Nat.succ (drawL_len f r (f x n).2)
theorem drawL_all {α β : Type} {f : α → Int → β × Int} {P : β → Prop} (h : ∀ x n, P (f x n).1) : ∀ (l : List α) (n : Int) (y : β), y ∈ (drawL f l n).1 → P y
  | [], n, y, hy => by simp [drawL] at hy
  | x :: r, n, y, hy => by
    rcases List.mem_cons.mp hy with e | hy
    · rw [e]
      exact h x n
    · exact drawL_all h r _ y hy
/-- a comprehension that draws: N the store by the pile -/
theorem lcL_drawL {tg : MG} {me : MX} {δ : DM.Env} {β : Type} (f : Dt → Int → β × Int) (F : β → Dt) (N : Int → Mem) : ∀ {ds : List Dt} (n : Int),
    (∀ d, d ∈ ds → ∀ m, ∃ δ1, tg d δ (N m) = some δ1 ∧ me δ1 (N m) = .ok (F (f d m).1) (N (f d m).2)) → lcL tg mYes me δ none ds (N n) = .ok ((drawL f ds n).1.map F) (N (drawL f ds n).2)
  | [], n, _ => by simp [lcL, drawL]
  | d :: ds, n, h => by
    obtain ⟨δ1, e1, e2⟩ := h d List.mem_cons_self n
    have ih := lcL_drawL (tg := tg) (me := me) (δ := δ) f F N (ds := ds) (f d n).2 fun d hd => h d (List.mem_cons_of_mem _ hd)
    simp [lcL, e1, e2, ih, drawL]
def mixedI (c k : Int) : Int :=
  let n1 := (c.fmod 2147483647 * 48271 + k * 69621 + 1048583).fmod 2147483629
  let n2 := (n1 * n1).fmod 2147483587
  (n2 * (n2 + 2)).fmod 2147483579
theorem fmod_lt {a b : Int} (h : 0 < b) : 0 ≤ a.fmod b ∧ a.fmod b < b := by
  rw [Int.fmod_eq_emod_of_nonneg _ (Int.le_of_lt h)]
  exact ⟨Int.emod_nonneg _ (by omega), Int.emod_lt_of_pos _ h⟩
theorem mixed_lt (c k : Int) : 0 ≤ mixedI c k ∧ mixedI c k < 2147483579 := fmod_lt (by decide)
theorem cmw {i j : Int} (a b : Nat) (h1 : i.natAbs < 2 ^ a) (h2 : j.natAbs < 2 ^ b) (ha : 0 < a := by decide) (hb : 0 < b := by decide) (h : a + b ≤ 1000000 := by decide) : CMulW i j := wide_mul h1 h2 ha hb h
def bigM : Int := (10 : Int) ^ (60 : Int).toNat * (10 : Int) ^ (60 : Int).toNat * (10 : Int) ^ (60 : Int).toNat * (10 : Int) ^ (60 : Int).toNat
/-- the number at a place of the script, 0 beyond -/
def cellAt (ns : List Int) (k : Int) : Int := if k < (ns.length : Int) then ns.getD k.toNat 0 else 0
def foundI (c k : Int) (n : Nat) : Int := (List.range n).foldl (fun (f : Int) (j : Nat) => f * 2147483579 + mixedI c (7 * k + 100 * (0 + (j : Int)) + (0 + (j : Int)) * (0 + (j : Int)))) 0
theorem found_succ (c k : Int) (n : Nat) : foundI c k (n + 1) = foundI c k n * 2147483579 + mixedI c (7 * k + 100 * (0 + (n : Int)) + (0 + (n : Int)) * (0 + (n : Int))) := by
  unfold foundI
  rw [List.range_succ, List.foldl_append]
  rfl
theorem found_lt (c k : Int) : ∀ n : Nat, 0 ≤ foundI c k n ∧ foundI c k n < ((2 ^ (31 * n) : Nat) : Int)
  | 0 => by
    show (0 : Int) ≤ 0 ∧ (0 : Int) < ((2 ^ (31 * 0) : Nat) : Int)
    decide
  | n + 1 => by
    have ih := found_lt c k n
    have hm := mixed_lt c (7 * k + 100 * (0 + (n : Int)) + (0 + (n : Int)) * (0 + (n : Int)))
    have e : 2 ^ (31 * (n + 1)) = 2 ^ (31 * n) * 2147483648 := by rw [Nat.mul_add, Nat.pow_add]
    rw [found_succ, e]
    generalize 2 ^ (31 * n) = P at ih
    omega
theorem found_nat (c k : Int) (n : Nat) (h : n ≤ 24) : (foundI c k n).natAbs < 2 ^ 744 := by
  have ih := found_lt c k n
  have h1 : 2 ^ (31 * n) ≤ 2 ^ 744 := Nat.pow_le_pow_right (by decide) (by omega)
  generalize 2 ^ (31 * n) = P at ih h1
  generalize 2 ^ 744 = R at h1
  omega
def cellF (ns : List Int) (k : Int) : Int :=
  let c := cellAt ns k
  if 10 ^ (18 : Int).toNat ≤ c then (c - 10 ^ (18 : Int).toNat).fmod bigM else foundI c k 24
/-! ### draws -/
def letterS : Str := "abcdefghijklmnopqrstuvwxyz"
def letterC (n : Int) : Nat := letterS.cps.toList.getD (n.fmod 26).toNat 0
def letF (_ : Dt) (n : Int) : Str × Int := (⟨#[letterC n]⟩, n.fdiv 26)
def threeS (i : Int) : Str := (["a", "b", "ab"] : List Str).getD i.toNat ""
def partF (n : Int) : Str × Int :=
  if n.fmod 5 < 3 then (threeS (n.fmod 5), n.fdiv 5)
  else
    let r := drawL letF (rngD 0 (1 + (n.fdiv 5).fmod 8).toNat) ((n.fdiv 5).fdiv 8)
    (Txt.join "" r.1, r.2)
def dotS : Str := "."
theorem tl_dot : tl dotS = [46] := by decide +kernel
/-- the parts of a drawn name -/
def partsF (most n : Int) : List Str × Int := drawL (fun _ m => partF m) (rngD 0 (1 + n.fmod most).toNat) (n.fdiv most)
def nameF (most n : Int) : Str × Int := (Txt.join dotS (partsF most n).1, (partsF most n).2)
theorem drawL_map {α β γ : Type} (f : α → Int → β × Int) (g : α → Int → γ × Int) (h : γ → β) (e : ∀ x n, f x n = (h (g x n).1, (g x n).2)) : ∀ (l : List α) (n : Int), drawL f l n = ((drawL g l n).1.map h, (drawL g l n).2)
  | [], n => rfl
  | x :: r, n => by
    rw [drawL, drawL, drawL_map f g h e r]
    rw [e x n]
    rfl
/-! ### what the draws give -/
def smallS : Str := "abcdefghijklmnopqrstuvwxyz"
def partS (z : Str) : Bool := (decide ((1 : Int) ≤ (z.length : Int)) && decide ((z.length : Int) ≤ 8)) && z.cps.toList.all fun c => decide (c ∈ smallS.cps.toList)
theorem letters : letterS.cps.toList = (List.range 26).map (· + 97) := by decide +kernel
theorem letter_in (n : Int) : letterC n ∈ smallS.cps.toList := by
  have h := fmod_lt (a := n) (b := 26) (by decide)
  have hl : letterS.cps.toList.length = 26 := by decide +kernel
  unfold letterC
  rw [List.getD_eq_getElem?_getD, List.getElem?_eq_getElem (by omega)]
  exact List.getElem_mem _
theorem letter_at (n : Int) : atI letterS.cps.toList (n.fmod 26) = some (letterC n) := by
  have h := fmod_lt (a := n) (b := 26) (by decide)
  have hl : letterS.cps.toList.length = 26 := by decide +kernel
  have e : ((n.fmod 26).toNat : Int) = n.fmod 26 := by omega
  have := atI_nat (xs := letterS.cps.toList) (j := (n.fmod 26).toNat) (v := letterC n) (by
    unfold letterC
    rw [List.getD_eq_getElem?_getD, List.getElem?_eq_getElem (by omega)]
    rfl)
  rwa [e] at this
theorem join_empty : ∀ ys : List Str, tl (Txt.join "" ys) = (ys.map tl).flatten
  | ys => by
    rw [tl_joinT]
    have : tl ("" : Str) = [] := by decide +kernel
    rw [this]
    generalize ys.map tl = l
    induction l with
    | nil => rfl
    | cons p r ih =>
      cases r with
      | nil => simp [joinL]
      | cons q r =>
        show p ++ ([] ++ joinL [] (q :: r)) = _
        rw [ih, List.nil_append]
        rfl
theorem part_ok (n : Int) : partS (partF n).1 = true := by
  unfold partF
  split
  · have h := fmod_lt (a := n) (b := 5) (by decide)
    have : n.fmod 5 = 0 ∨ n.fmod 5 = 1 ∨ n.fmod 5 = 2 := by omega
    show partS (threeS (n.fmod 5)) = true
    rcases this with e | e | e <;> rw [e] <;> decide +kernel
  · show partS (Txt.join "" (drawL letF (rngD 0 (1 + (n.fdiv 5).fmod 8).toNat) ((n.fdiv 5).fdiv 8)).1) = true
    have h8 := fmod_lt (a := n.fdiv 5) (b := 8) (by decide)
    generalize hr : drawL letF (rngD 0 (1 + (n.fdiv 5).fmod 8).toNat) ((n.fdiv 5).fdiv 8) = r
    have hlen : r.1.length = (1 + (n.fdiv 5).fmod 8).toNat := by
      rw [← hr, drawL_len]
      simp [rngD]
    have hall : ∀ y ∈ r.1, ∃ c, c ∈ smallS.cps.toList ∧ y = ⟨#[c]⟩ := by
      rw [← hr]
      exact drawL_all (fun x m => ⟨letterC m, letter_in m, rfl⟩) _ _
    have hj := join_empty r.1
    have key : ∀ l : List Str, (∀ y ∈ l, ∃ c, c ∈ smallS.cps.toList ∧ y = ⟨#[c]⟩) → ((l.map tl).flatten).length = l.length ∧ ∀ c ∈ (l.map tl).flatten, c ∈ smallS.cps.toList := by
      intro l
      induction l with
      | nil => intro _; exact ⟨rfl, fun c h => nomatch h⟩
      | cons y l ih =>
        intro h
        obtain ⟨c, hc, rfl⟩ := h y (List.mem_cons_self ..)
        obtain ⟨i1, i2⟩ := ih fun z hz => h z (List.mem_cons_of_mem _ hz)
        refine ⟨?_, fun d hd => ?_⟩
        · show ([c] ++ (l.map tl).flatten).length = _
          rw [List.length_append, i1]
          simp
          omega
        · have hd' : d ∈ [c] ++ (l.map tl).flatten := hd
          rcases List.mem_append.mp hd' with h | h
          · rw [List.mem_singleton.mp h]
            exact hc
          · exact i2 d h
    obtain ⟨k1, k2⟩ := key r.1 hall
    unfold partS
    rw [show (Txt.join "" r.1).cps.toList = (r.1.map tl).flatten from hj, len_tl, hj, k1, hlen, Bool.and_eq_true, Bool.and_eq_true]
    refine ⟨⟨decide_eq_true (by omega), decide_eq_true (by omega)⟩, List.all_eq_true.mpr fun c hc => decide_eq_true (k2 c hc)⟩
theorem partS_len {z : Str} (h : partS z = true) : 1 ≤ z.length ∧ z.length ≤ 8 := by
  unfold partS at h
  simp only [Bool.and_eq_true, decide_eq_true_eq] at h
  omega
theorem partS_free {z : Str} {c : Nat} (hc : c ∉ smallS.cps.toList) (h : partS z = true) : c ∉ tl z := by
  unfold partS at h
  simp only [Bool.and_eq_true, decide_eq_true_eq, List.all_eq_true] at h
  exact fun hm => hc (h.2 c hm)
theorem partS_nodot {z : Str} (h : partS z = true) : 46 ∉ tl z := partS_free (by decide +kernel) h
theorem parts_len (most n : Int) (h : 0 < most) : 1 ≤ (partsF most n).1.length ∧ ((partsF most n).1.length : Int) ≤ most := by
  have hm := fmod_lt (a := n) h
  unfold partsF
  rw [drawL_len]
  simp [rngD]
  omega
theorem parts_all (most n : Int) : ∀ y ∈ (partsF most n).1, partS y = true := drawL_all (fun _ m => part_ok m) _ _
theorem sum_le {l : List Str} (h : ∀ y ∈ l, partS y = true) : (l.map (·.length)).sum ≤ 8 * l.length := by
  induction l with
  | nil => simp
  | cons y l ih =>
    have h1 := (partS_len (h y (List.mem_cons_self ..))).2
    have h2 := ih fun z hz => h z (List.mem_cons_of_mem _ hz)
    simp only [List.map_cons, List.sum_cons, List.length_cons]
    omega
theorem join_len {l : List Str} (h : ∀ y ∈ l, partS y = true) : (Txt.join dotS l).length ≤ 9 * l.length := by
  rw [len_tl, tl_joinT, tl_dot]
  have h1 := joinL_len 46 (l.map tl)
  have h2 := sum_le h
  rw [List.map_map, List.length_map] at h1
  have : (List.length ∘ tl) = fun (s : Str) => s.length := by
    funext s
    exact (len_tl s).symm
  rw [this] at h1
  omega
theorem split_join {l : List Str} (h : ∀ y ∈ l, partS y = true) (hn : l ≠ []) : Txt.split (Txt.join dotS l) dotS = l := by
  apply map_tl_inj
  rw [split_one tl_dot (by decide), List.map_map, tl_joinT, tl_dot]
  have : (tl ∘ mk) = id := rfl
  rw [this, List.map_id]
  refine splitN_join (by simpa using hn) fun p hp => ?_
  obtain ⟨y, hy, rfl⟩ := List.mem_map.mp hp
  exact partS_nodot (h y hy)
/-! ### the program's names, as functions -/
def isPartD : Dt → Bool
  | .str z => partS z
  | _ => false
def nameS (z : Str) : Bool := decide (((Txt.split z dotS).length : Int) ≤ 4) && (Txt.split z dotS).all partS
def isNameD : Dt → Bool
  | .str z => nameS z
  | _ => false
def elderD (z : Str) : Dt := if (Txt.rpartition z dotS).1 = Str.empty then .non else .str (Txt.rpartition z dotS).1
def lastS (z : Str) : Str := (Txt.rpartition z dotS).2.2
def eldersS (z : Str) : List Str := (List.range (Txt.split z dotS).length).map fun i => Txt.join dotS ((Txt.split z dotS).take (i + 1))
def eldersL (l : List Str) : List Str := (List.range l.length).map fun i => Txt.join dotS (l.take (i + 1))
theorem elders_join {l : List Str} (h : ∀ y ∈ l, partS y = true) (hn : l ≠ []) : eldersS (Txt.join dotS l) = eldersL l := by
  unfold eldersS eldersL
  rw [split_join h hn]
theorem joinL_snoc (c : Nat) : ∀ (l : List (List Nat)) (x : List Nat), l ≠ [] → joinL [c] (l ++ [x]) = joinL [c] l ++ c :: x
  | [], _, h => absurd rfl h
  | [p], x, _ => rfl
  | p :: q :: r, x, _ => by
    have ih := joinL_snoc c (q :: r) x (by simp)
    show p ++ ([c] ++ joinL [c] ((q :: r) ++ [x])) = (p ++ ([c] ++ joinL [c] (q :: r))) ++ c :: x
    rw [ih]
    simp
theorem join_one (x : Str) : Txt.join dotS [x] = x := by
  apply ext_tl
  rw [tl_joinT]
  rfl
theorem elder_one {x : Str} (h : partS x = true) : elderD (Txt.join dotS [x]) = .non := by
  rw [join_one]
  unfold elderD
  rw [rpart_none tl_dot (partS_nodot h), if_pos rfl]
theorem last_one {x : Str} (h : partS x = true) : lastS (Txt.join dotS [x]) = x := by
  rw [join_one]
  unfold lastS
  rw [rpart_none tl_dot (partS_nodot h)]
theorem join_ne {l : List Str} (h : ∀ y ∈ l, partS y = true) (hn : l ≠ []) : ¬ Txt.join dotS l = Str.empty := by
  intro e
  have e2 : tl (Txt.join dotS l) = [] := by rw [e]; rfl
  rw [tl_joinT, tl_dot] at e2
  cases l with
  | nil => exact hn rfl
  | cons x r =>
    have hx := (partS_len (h x (List.mem_cons_self ..))).1
    rw [len_tl] at hx
    cases r with
    | nil =>
      have : tl x = [] := e2
      rw [this] at hx
      exact absurd hx (by decide)
    | cons y r =>
      have : tl x ++ ([46] ++ joinL [46] ((y :: r).map tl)) = [] := e2
      simp at this
theorem rpart_snoc {l : List Str} {x : Str} (h : partS x = true) (hn : l ≠ []) : Txt.rpartition (Txt.join dotS (l ++ [x])) dotS = (Txt.join dotS l, dotS, x) := by
  have e : tl (Txt.join dotS (l ++ [x])) = tl (Txt.join dotS l) ++ 46 :: tl x := by
    rw [tl_joinT, tl_joinT, tl_dot, List.map_append]
    exact joinL_snoc 46 _ _ (by simpa using hn)
  rw [rpart_some tl_dot e (partS_nodot h), mk_tl', mk_tl']
theorem elder_snoc {l : List Str} {x : Str} (hl : ∀ y ∈ l, partS y = true) (h : partS x = true) (hn : l ≠ []) : elderD (Txt.join dotS (l ++ [x])) = .str (Txt.join dotS l) := by
  unfold elderD
  rw [rpart_snoc h hn, if_neg (join_ne hl hn)]
theorem last_snoc {l : List Str} {x : Str} (h : partS x = true) (hn : l ≠ []) : lastS (Txt.join dotS (l ++ [x])) = x := by
  unfold lastS
  rw [rpart_snoc h hn]
/-- the elder as a list of names tells it -/
theorem elder_at {l : List Str} (h : ∀ y ∈ l, partS y = true) (hn : l ≠ []) : atI (Dt.non :: strsD (eldersL l)) (((strsD (eldersL l)).length : Int) - 1) = some (elderD (Txt.join dotS l)) := by
  have hlen : (strsD (eldersL l)).length = l.length := by
    unfold strsD eldersL
    simp
  rw [hlen]
  have hl1 : 1 ≤ l.length := List.length_pos_iff.mpr hn
  have e : ((l.length - 1 : Nat) : Int) = (l.length : Int) - 1 := by omega
  rw [← e]
  refine atI_nat ?_
  rcases List.eq_nil_or_concat l with z | ⟨i, x, z⟩
  · exact absurd z hn
  · rw [List.concat_eq_append] at z
    subst z
    have hx : partS x = true := h x (by simp)
    have hi : ∀ y ∈ i, partS y = true := fun y hy => h y (by simp [hy])
    rw [List.length_append, List.length_singleton, Nat.add_sub_cancel]
    cases i with
    | nil =>
      rw [List.nil_append, elder_one hx]
      rfl
    | cons a r =>
      rw [elder_snoc hi hx (by simp)]
      show (strsD (eldersL ((a :: r) ++ [x])))[r.length]? = _
      unfold strsD eldersL
      rw [List.map_map, List.getElem?_map, List.getElem?_range (by simp; omega)]
      simp [List.take_append]
theorem last_at {l : List Str} (h : ∀ y ∈ l, partS y = true) (hn : l ≠ []) : atI (strsD l) (-1) = some (.str (lastS (Txt.join dotS l))) := by
  rcases List.eq_nil_or_concat l with z | ⟨i, x, z⟩
  · exact absurd z hn
  · rw [List.concat_eq_append] at z
    subst z
    have hx : partS x = true := h x (by simp)
    have e : lastS (Txt.join dotS (i ++ [x])) = x := by
      cases i with
      | nil => exact last_one hx
      | cons a r => exact last_snoc hx (by simp)
    rw [e]
    unfold strsD
    rw [List.map_append]
    exact atI_last _ _
end LM

set_option linter.all false
set_option maxRecDepth 100000
set_option maxHeartbeats 4000000
/-! TYM: leading signs, parts of texts, names as lists of parts. -/
namespace TX
open PySem PySem.Spec PyProof.Rows L2 DM TL
/-- how many signs c stand ahead -/
def leadN (c : Nat) : List Nat → Nat
  | [] => 0
  | x :: r => if x = c then leadN c r + 1 else 0
theorem leadN_le (c : Nat) : ∀ l, leadN c l ≤ l.length
  | [] => Nat.le_refl _
  | x :: r => by
    have ih := leadN_le c r
    rw [leadN]
    split
    · simp
      exact ih
    · exact Nat.zero_le _
theorem leadN_take {c : Nat} {g : Nat → Bool} (hg : ∀ x, g x = decide (x = c)) : ∀ l : List Nat, (l.takeWhile g).length = leadN c l
  | [] => rfl
  | x :: r => by
    have ih := leadN_take hg r
    rw [List.takeWhile_cons, leadN, hg]
    by_cases h : x = c
    · simp [h, ih]
    · simp [h]
theorem leadN_at {c : Nat} : ∀ (l : List Nat) (i : Nat), i < leadN c l → l[i]? = some c
  | [], i, h => absurd h (Nat.not_lt_zero _)
  | x :: r, 0, h => by
    rw [leadN] at h
    split at h
    · rename_i e
      rw [e]
      rfl
    · exact absurd h (Nat.not_lt_zero _)
  | x :: r, i + 1, h => by
    rw [leadN] at h
    split at h
    · rw [List.getElem?_cons_succ]
      exact leadN_at r i (by omega)
    · exact absurd h (Nat.not_lt_zero _)
theorem leadN_end {c : Nat} : ∀ l : List Nat, l[leadN c l]? ≠ some c
  | [] => by simp
  | x :: r => by
    rw [leadN]
    split
    · rw [List.getElem?_cons_succ]
      exact leadN_end r
    · rename_i h
      simpa using h
theorem lstrip_one {y : Str} {c : Nat} (hy : tl y = [c]) (x : Str) : Txt.lstripChars x y = mk ((tl x).drop (leadN c (tl x))) := by
  apply ext_tl
  rw [tl_mk']
  unfold Txt.lstripChars
  rw [PyProof.Rows.stripBy_eq]
  have h1 : stripLo y.cps.contains true x = leadN c (tl x) := by
    simp only [stripLo, if_true]
    refine leadN_take (fun z => ?_) (tl x)
    have : y.cps = #[c] := by
      apply Array.toList_inj.mp
      exact hy
    rw [this]
    by_cases h : z = c <;> simp [h]
  have h2 : stripHi y.cps.contains false x (stripLo y.cps.contains true x) = x.length := by
    simp [stripHi]
  rw [h2, h1]
  exact tl_strSub_end x _
theorem tl_cut (z : Str) (i j : Nat) : tl (cutS z (some (i : Int)) (some (j : Int))) = ((tl z).drop i).take (j - i) := by
  unfold cutS
  rw [tl_mk, HT.sIx_nat, HT.sIx_nat]
  show ((tl z).drop _).take _ = _
  have hl : z.length = (tl z).length := len_tl z
  by_cases hi : i ≤ z.length
  · rw [Nat.min_eq_left hi]
    by_cases hj : j ≤ z.length
    · rw [Nat.min_eq_left hj]
    · rw [Nat.min_eq_right (by omega), List.take_of_length_le (by rw [List.length_drop]; omega), List.take_of_length_le (by rw [List.length_drop]; omega)]
  · rw [Nat.min_eq_right (show z.length ≤ i by omega), List.drop_of_length_le (show (tl z).length ≤ z.length by omega), List.drop_of_length_le (show (tl z).length ≤ i by omega)]
    simp
theorem tl_cutFrom (z : Str) (i : Nat) : tl (cutS z (some (i : Int)) none) = (tl z).drop i := by
  unfold cutS
  rw [tl_mk, HT.sIx_nat, HT.sIx_none]
  show ((tl z).drop _).take _ = _
  have hl : z.length = (tl z).length := len_tl z
  by_cases hi : i ≤ z.length
  · rw [Nat.min_eq_left hi, List.take_of_length_le (by rw [List.length_drop]; omega)]
  · rw [Nat.min_eq_right (by omega), List.drop_of_length_le (by omega), List.drop_of_length_le (by omega)]
    simp
theorem tl_cutTo (z : Str) (j : Nat) : tl (cutS z none (some (j : Int))) = (tl z).take j := by
  unfold cutS
  rw [tl_mk, HT.sIx_nat, HT.sIx_none]
  show ((tl z).drop 0).take _ = _
  rw [List.drop_zero, Nat.sub_zero]
  have hl : z.length = (tl z).length := len_tl z
  by_cases hj : j ≤ z.length
  · rw [Nat.min_eq_left hj]
  · rw [Nat.min_eq_right (by omega), List.take_of_length_le (by omega), List.take_of_length_le (by omega)]
theorem beq_mk {x : Str} {l : List Nat} : (x == mk l) = decide (tl x = l) := by
  by_cases h : tl x = l
  · have : x = mk l := ext_tl h
    rw [decide_eq_true h, this]
    exact beq_self_eq_true _
  · rw [decide_eq_false h, beq_eq_false_iff_ne]
    intro e
    rw [e] at h
    exact h rfl
theorem eq_mk {x : Str} {l : List Nat} : x = mk l ↔ tl x = l := ⟨fun h => by rw [h]; rfl, fun h => ext_tl h⟩
theorem rep_len (x : Str) (n : Int) : (repS x n).length ≤ x.length * n.toNat := by
  unfold repS
  split
  · exact Nat.zero_le _
  · split
    · rename_i h1 h2
      have : 1 ≤ n.toNat := by omega
      calc x.length = x.length * 1 := (Nat.mul_one _).symm
        _ ≤ x.length * n.toNat := Nat.mul_le_mul_left _ this
    · show ((List.replicate n.toNat x.cps).foldl (· ++ ·) #[]).size ≤ _
      rw [foldl_size]
      show 0 + x.cps.size * n.toNat ≤ x.length * n.toNat
      rw [Nat.zero_add]
      exact Nat.le_refl _
end TX
namespace LM
open PySem PySem.Spec PyProof.Rows L2 DM TL TX
/-- a name is its parts, joined -/
theorem name_parts {z : Str} (h : nameS z = true) : ∃ l : List Str, (∀ y ∈ l, partS y = true) ∧ l ≠ [] ∧ l.length ≤ 4 ∧ z = Txt.join dotS l := by
  unfold nameS at h
  rw [Bool.and_eq_true, decide_eq_true_eq, List.all_eq_true] at h
  refine ⟨Txt.split z dotS, h.2, ?_, by omega, ?_⟩
  · rw [split_one tl_dot (by decide)]
    simpa using splitN_ne 46 (tl z)
  · apply ext_tl
    rw [split_one tl_dot (by decide), join_mk tl_dot, join_splitN]
    rfl
theorem name_join {l : List Str} (h : ∀ y ∈ l, partS y = true) (hn : l ≠ []) : nameS (Txt.join dotS l) = decide (l.length ≤ 4) := by
  unfold nameS
  rw [split_join h hn, List.all_eq_true.mpr h, Bool.and_true]
  by_cases c : l.length ≤ 4
  · rw [decide_eq_true c, decide_eq_true (by omega)]
  · rw [decide_eq_false c, decide_eq_false (by omega)]
theorem name_len {z : Str} (h : nameS z = true) : z.length ≤ 36 := by
  obtain ⟨l, h1, _, h3, rfl⟩ := name_parts h
  have := join_len h1
  omega
theorem name_ne {z : Str} (h : nameS z = true) : z ≠ Str.empty := by
  obtain ⟨l, h1, h2, h3, rfl⟩ := name_parts h
  exact join_ne h1 h2
def elderX : Dt → Dt
  | .str z => elderD z
  | d => d
def upD (n : Nat) (d : Dt) : Dt := n.rec d fun _ e => elderX e
theorem upD_succ (n : Nat) (d : Dt) : upD (n + 1) d = elderX (upD n d) := rfl
theorem up_join {l : List Str} (h : ∀ y ∈ l, partS y = true) (hn : l ≠ []) : ∀ n : Nat, upD n (.str (Txt.join dotS l)) = if n < l.length then .str (Txt.join dotS (l.take (l.length - n))) else .non
  | 0 => by
    have : 0 < l.length := List.length_pos_iff.mpr hn
    rw [if_pos this, Nat.sub_zero, List.take_length]
    rfl
  | n + 1 => by
    rw [upD_succ, up_join h hn n]
    by_cases c : n < l.length
    · rw [if_pos c]
      have hl : (l.take (l.length - n)).length = l.length - n := by rw [List.length_take]; omega
      have hne : l.take (l.length - n) ≠ [] := by
        intro e
        rw [e] at hl
        simp at hl
        omega
      have hp : ∀ y ∈ l.take (l.length - n), partS y = true := fun y hy => h y (List.mem_of_mem_take hy)
      rcases List.eq_nil_or_concat (l.take (l.length - n)) with e | ⟨i, x, e⟩
      · exact absurd e hne
      · rw [List.concat_eq_append] at e
        have hx : partS x = true := hp x (by rw [e]; simp)
        have hi : ∀ y ∈ i, partS y = true := fun y hy => hp y (by rw [e]; simp [hy])
        have hil : i.length = l.length - n - 1 := by
          rw [e, List.length_append, List.length_singleton] at hl
          omega
        rw [e]
        by_cases c2 : n + 1 < l.length
        · have hin : i ≠ [] := by
            intro z
            rw [z] at hil
            simp at hil
            omega
          rw [if_pos c2]
          show elderD _ = _
          rw [elder_snoc hi hx hin]
          have : i = l.take (l.length - (n + 1)) := by
            have e2 : (l.take (l.length - n)).take (l.length - n - 1) = i := by
              rw [e, ← hil, List.take_left]
            rw [← e2, List.take_take]
            congr 1
            omega
          rw [← this]
        · have hin : i = [] := by
            apply List.eq_nil_of_length_eq_zero
            omega
          rw [if_neg c2, hin]
          exact elder_one hx
    · rw [if_neg c, if_neg (by omega)]
      rfl
theorem join_cons (l r : List Str) (hl : l ≠ []) : Txt.join dotS (Txt.join dotS l :: r) = Txt.join dotS (l ++ r) := by
  apply ext_tl
  rw [tl_joinT, tl_joinT, tl_dot, List.map_cons, tl_joinT, tl_dot, List.map_append]
  generalize r.map tl = rs
  have : l.map tl ≠ [] := by simpa using hl
  generalize l.map tl = ls at this
  clear hl
  induction ls with
  | nil => exact absurd rfl this
  | cons p q ih =>
    cases q with
    | nil => rfl
    | cons p2 q =>
      have ih := ih (by simp)
      cases rs with
      | nil => simp [joinL]
      | cons r1 rs =>
        show (p ++ ([46] ++ joinL [46] (p2 :: q))) ++ ([46] ++ joinL [46] (r1 :: rs)) = p ++ ([46] ++ joinL [46] ((p2 :: q) ++ r1 :: rs))
        rw [← ih]
        show _ = p ++ ([46] ++ (joinL [46] (p2 :: q) ++ ([46] ++ joinL [46] (r1 :: rs))))
        simp only [List.append_assoc]
/-! ### names from afar -/
def dotsN (z : Str) : Nat := leadN 46 (tl z)
def behS (z : Str) : Str := mk ((tl z).drop (dotsN z))
theorem lstrip_dot (z : Str) : Txt.lstripChars z dotS = behS z := lstrip_one tl_dot z
theorem beh_len (z : Str) : (behS z).length + dotsN z = z.length := by
  unfold behS
  rw [len_mk, List.length_drop, len_tl]
  have := leadN_le 46 (tl z)
  unfold dotsN
  omega
def nearS (z : Str) : Bool := decide (dotsN z ≤ 4) && (nameS (behS z) || (decide (behS z = Str.empty) && decide (0 < dotsN z)))
def isNearD : Dt → Bool
  | .str z => nearS z
  | _ => false
/-- the parts behind the dots -/
def restS (z : Str) : List Str := (Txt.split (behS z) dotS).filter fun p => !(p == Str.empty)
def nearF (w b : Dt) (k : Bool) : Option Dt := match w with
  | .str z => if nearS z = true then (if dotsN z = 0 then some (.str z) else if isNameD b = true then (match upD (dotsN z - k.toNat) b with
    | .str h => if nameS (Txt.join dotS (h :: restS z)) = true then some (.str (Txt.join dotS (h :: restS z))) else none
    | _ => none) else none) else none
  | _ => none
theorem rest_ok {z : Str} (h : nearS z = true) : (∀ y ∈ restS z, partS y = true) ∧ (restS z).length ≤ 4 := by
  unfold nearS at h
  rw [Bool.and_eq_true, Bool.or_eq_true, Bool.and_eq_true, decide_eq_true_eq, decide_eq_true_eq] at h
  unfold restS
  rcases h.2 with h1 | ⟨h1, _⟩
  · obtain ⟨l, h2, h3, h4, h5⟩ := name_parts h1
    rw [h5, split_join h2 h3]
    exact ⟨fun y hy => h2 y (List.mem_filter.mp hy).1, Nat.le_trans (List.length_filter_le _ _) h4⟩
  · rw [h1, split_one tl_dot (by decide)]
    have : splitN 46 (tl Str.empty) = [[]] := rfl
    rw [this]
    have e : (mk [] == Str.empty) = true := rfl
    simp [e]
theorem nameF_ok {most n : Int} (h0 : 0 < most) (h4 : most ≤ 4) : nameS (nameF most n).1 = true := by
  have hp := parts_len most n h0
  have hn : (partsF most n).1 ≠ [] := by
    intro e
    rw [e] at hp
    simp at hp
  unfold nameF
  show nameS (Txt.join dotS (partsF most n).1) = true
  rw [name_join (parts_all most n) hn, decide_eq_true_eq]
  omega
end LM

set_option linter.all false
set_option maxRecDepth 100000
set_option maxHeartbeats 4000000
/-! DT: further steps at given data, for simp with a discharger. -/
namespace DM
open PySem PySem.Spec PyProof.Rows L2 TL TX LM
open Classical
section
variable {β : Type} {c : Prop} [Decidable c] {a b : R β} {μ : Mem} {d e : Dt} {ds es : List Dt} {x y z : Str} {i j : Int} {k l : Bool} {T : String} {n m : Nat} {δ : DM.Env}
theorem if_no (h : c) : (if c then a else R.no) = a := if_pos h
theorem if_ok (h : c) : (if c then a else b) = a := if_pos h
theorem if_not (h : ¬ c) : (if c then a else b) = b := if_neg h
/-- a part that may be there -/
def optR (o : Option Dt) (μ : Mem) : R Dt := match o with
  | some d => .ok d μ
  | none => .no
@[simp] theorem optR_some : optR (some d) μ = .ok d μ := rfl
@[simp] theorem strsD_len {l : List Str} : (strsD l).length = l.length := by simp [strsD]
@[simp] theorem rngD_len {lo : Int} {n : Nat} : (rngD lo n).length = n := by simp [rngD]
@[simp] theorem signsD_len : (signsD z).length = z.length := by simp [signsD, Str.length]
@[simp] theorem strsD_cons {l : List Str} : Dt.str x :: strsD l = strsD (x :: l) := rfl
@[simp] theorem strsD_app {l m : List Str} : strsD l ++ strsD m = strsD (l ++ m) := by simp [strsD]
theorem map_str {l : List Str} : l.map Dt.str = strsD l := rfl
theorem strsD_one : [Dt.str x] = strsD [x] := rfl
@[simp] theorem asS_lst : asS μ (.lst ds) = some ds := rfl
@[simp] theorem asS_tup : asS μ (.tup ds) = some ds := rfl
@[simp] theorem asL_lst : asL μ (.lst ds) = some ds := rfl
/-- the list of the store at n -/
def lstAt (μ : Mem) (n : Nat) : Option (List Dt) := match μ[n]? with
  | some (.lst ds) => some ds
  | _ => none
@[simp] theorem asL_ptr : asL μ (.ptr n) = lstAt μ n := rfl
@[simp] theorem asS_ptr : asS μ (.ptr n) = lstAt μ n := rfl
@[simp] theorem asT_strs {l : List Str} : asT (strsD l) = some l := asT_map l
@[simp] theorem tyM_str : tyM T (.str z) μ = (T == "str") := rfl
@[simp] theorem tyM_int : tyM T (.int i) μ = (T == "int") := rfl
@[simp] theorem tyM_lst : tyM T (.lst ds) μ = (T == "list") := rfl
@[simp] theorem tyM_ptr : tyM T (.ptr n) μ = (match μ[n]? with | some (.lst _) => T == "list" | some (.dK _) => T == "dict" | some (.dT _) => T == "dict" | _ => false) := rfl
/-! texts -/
theorem dot_eq : (Str.ofString ".") = dotS := rfl
theorem dot_ne : (dotS.length == 0) = false := by decide +kernel
theorem bSplit_str (h : (y.length == 0) = false) (h2 : x.length ≤ 10000000) : bSplit (.str x) [.str y] μ = .ok (.lst (strsD (Txt.split x y))) μ := if_pos ⟨h, h2⟩
theorem bSplit_dot (h2 : x.length ≤ 10000000) : bSplit (.str x) [.str (Str.ofString ".")] μ = .ok (.lst (strsD (Txt.split x dotS))) μ := bSplit_str dot_ne h2
theorem bRpart_dot (h2 : x.length ≤ 10000000) : bRpart (.str x) [.str (Str.ofString ".")] μ = .ok (.tup (strsD [(Txt.rpartition x dotS).1, (Txt.rpartition x dotS).2.1, (Txt.rpartition x dotS).2.2])) μ := if_pos ⟨dot_ne, h2⟩
theorem bLstrip_dot (h2 : x.length ≤ 10000000) : bLstrip (.str x) [.str (Str.ofString ".")] μ = .ok (.str (behS x)) μ := by
  rw [← lstrip_dot]
  exact if_pos h2
theorem bJoin_strs {l : List Str} (h : (l.map (·.length)).sum + l.length * x.length ≤ 16777216) : bJoin (.str x) [.lst (strsD l)] μ = .ok (.str (Txt.join x l)) μ := by
  simp only [bJoin, asS_lst, Option.bind_some, asT_strs]
  exact if_pos h
theorem bJoin_dot {l : List Str} (h : (l.map (·.length)).sum + l.length * dotS.length ≤ 16777216) : bJoin (.str (Str.ofString ".")) [.lst (strsD l)] μ = .ok (.str (Txt.join dotS l)) μ := bJoin_strs h
theorem bJoin_none {l : List Str} (h : (l.map (·.length)).sum + l.length * ("" : Str).length ≤ 16777216) : bJoin (.str (Str.ofString "")) [.lst (strsD l)] μ = .ok (.str (Txt.join "" l)) μ := bJoin_strs h
theorem bCount_str : bCount (.str x) [.str y] μ = .ok (.int (Txt.count x y)) μ := rfl
theorem bCount_dot : bCount (.str x) [.str (Str.ofString ".")] μ = .ok (.int (((Txt.split x dotS).length : Int) - 1)) μ := by
  have := split_count tl_dot (by decide) x
  rw [this, Int.add_sub_cancel]
  rfl
@[simp] theorem bStartswith_str : bStartswith (.str x) [.str y] μ = .ok (.bl (Txt.startswith x y)) μ := rfl
/-! parts -/
theorem oIx_lst : oIx (.lst ds) (.int i) μ = optR (L2.atI ds i) μ := by
  simp only [oIx, asS_lst]
  cases L2.atI ds i <;> rfl
theorem oIx_tup : oIx (.tup ds) (.int i) μ = optR (L2.atI ds i) μ := by
  simp only [oIx, asS_tup]
  cases L2.atI ds i <;> rfl
theorem oIx_scr : oIx (.scr ds) (.int i) μ = optR (L2.atI ds i) μ := by
  simp only [oIx]
  cases L2.atI ds i <;> rfl
theorem oIx_ptr : oIx (.ptr n) (.int i) μ = optR ((lstAt μ n).bind fun ds => L2.atI ds i) μ := by
  simp only [oIx, asS_ptr]
  cases lstAt μ n with
  | none => rfl
  | some ds => cases e : L2.atI ds i <;> simp [e, optR]
theorem oIx_str (h : z.length ≤ 10000000) : oIx (.str z) (.int i) μ = optR ((L2.atI z.cps.toList i).map fun c => .str ⟨#[c]⟩) μ := by
  simp only [oIx]
  rw [if_pos h]
  cases L2.atI z.cps.toList i <;> rfl
theorem oSl_str {lo hi : Option Int} (h : z.length ≤ 10000000) : oSl (.str z) lo hi μ = .ok (.str (cutS z lo hi)) μ := if_pos h
@[simp] theorem oSl_lst {lo hi : Option Int} : oSl (.lst ds) lo hi μ = .ok (.lst (cutD ds lo hi)) μ := rfl
theorem oSl_ptr {lo hi : Option Int} : oSl (.ptr n) lo hi μ = optR ((lstAt μ n).map fun ds => .lst (cutD ds lo hi)) μ := by
  simp only [oSl, asL_ptr]
  cases lstAt μ n <;> rfl
@[simp] theorem mPart_ap {f : MX} : mPart f δ μ = (f δ μ).bind fun x μ1 => match x with
  | .int i => .ok (some i) μ1
  | _ => .no := rfl
/-! the store -/
@[simp] theorem at_add {μ l : Mem} : (μ ++ l)[μ.length + n]? = l[n]? := by
  rw [List.getElem?_append_right (Nat.le_add_right _ _), Nat.add_sub_cancel_left]
@[simp] theorem at_add0 {μ l : Mem} : (μ ++ l)[μ.length]? = l[0]? := by
  rw [List.getElem?_append_right (Nat.le_refl _), Nat.sub_self]
@[simp] theorem set_add {μ l : Mem} {o : MO} : (μ ++ l).set (μ.length + n) o = μ ++ l.set n o := by
  rw [List.set_append_right _ _ (Nat.le_add_right _ _), Nat.add_sub_cancel_left]
@[simp] theorem set_add0 {μ l : Mem} {o : MO} : (μ ++ l).set μ.length o = μ ++ l.set 0 o := by
  rw [List.set_append_right _ _ (Nat.le_refl _), Nat.sub_self]
theorem ext_at {μ l : Mem} {o : MO} (h : μ[n]? = some o) : (μ ++ l)[n]? = some o := by
  rw [List.getElem?_append_left (List.getElem?_eq_some_iff.mp h).1]
  exact h
theorem oCatN_pl : oCatN (.ptr n) (.lst es) μ = (match lstAt μ n with | some ds => if ds.length + es.length ≤ 1000000 then .ok (.ptr μ.length) (μ ++ [.lst (ds ++ es)]) else .no | none => .no) := by
  unfold oCatN
  rw [asL_ptr, asL_lst]
  cases lstAt μ n <;> rfl
theorem bAppend_ptr : bAppend (.ptr n) [d] μ = (match lstAt μ n with | some ds => if ds.length ≤ 1000000 then .ok .non (μ.set n (.lst (ds ++ [d]))) else .no | none => .no) := by
  cases e : μ[n]? with
  | none => simp [bAppend, lstAt, e]
  | some o => cases o <;> simp [bAppend, lstAt, e]
theorem srcZ_lp : srcZ [.lst ds, .ptr n] μ = (match lstAt μ n with | some es => .ok (zipD ds es, some (n, .lst es)) μ | none => .no) := by
  cases e : μ[n]? with
  | none => simp [srcZ, lstAt, e]
  | some o => cases o <;> simp [srcZ, lstAt, e]
@[simp] theorem okG_some {o : MO} : okG (some (n, o)) μ ↔ μ[n]? = some o := by
  unfold okG
  exact ⟨fun h => h n o rfl, fun h i o' e => by cases e; exact h⟩
theorem lcL_cons {g : MG} {t : MT} {e : MX} {gd : Option (Nat × MO)} (h : okG gd μ) : lcL g t e δ gd (d :: ds) μ = (match g d δ μ with
    | none => .no
    | some δ1 => (t δ1 μ).noX.bind fun k μ1 => if k = true then (e δ1 μ1).noX.bind fun y μ2 => (lcL g t e δ gd ds μ2).bind fun ys μ3 => .ok (y :: ys) μ3 else lcL g t e δ gd ds μ1) := by
  rw [lcL, if_pos h]
  all_goals
    cases g d δ μ with
    | none => rfl
    | some δ1 =>
      show R.bind _ _ = R.bind _ _
      congr 1
theorem lcL_nil {g : MG} {t : MT} {e : MX} {gd : Option (Nat × MO)} (h : okG gd μ) : lcL g t e δ gd [] μ = .ok [] μ := by
  rw [lcL, if_pos h]
theorem sTry_ap {cq : Nat → Option Bool} {b s : MS} : sTry cq n b s δ μ = match b δ μ with
  | .ex n1 ns es δ' μ' => match cq n1 with
    | some true => (match s (δ'.set n (some (.exc n1 ns es))) μ' with
      | .nx δ2 μ2 => .nx (δ2.set n none) μ2
      | .bk δ2 μ2 => .bk (δ2.set n none) μ2
      | .ct δ2 μ2 => .ct (δ2.set n none) μ2
      | .rt d μ2 => .rt d μ2
      | _ => .no)
    | some false => .ex n1 ns es δ' μ'
    | none => .no
  | o => o := rfl
theorem seq_step {s u : MS} {δ1 : DM.Env} {μ1 : Mem} {o : O} (h : s δ μ = .nx δ1 μ1) (k : u δ1 μ1 = o) : sSeq s u δ μ = o := by
  rw [sSeq_ap, h, Othn_nx, k]
theorem forL_keep {tg : MG} {body : MS} (I : DM.Env → Mem → Prop) : ∀ {ds : List Dt} {δ : DM.Env} {μ : Mem}, (∀ d ∈ ds, ∀ δ μ, I δ μ → ∃ δ1 δ' μ', tg d δ μ = some δ1 ∧ body δ1 μ = .nx δ' μ' ∧ I δ' μ') → I δ μ → ∃ δ' μ', forL tg body none ds δ μ = .nx δ' μ' ∧ I δ' μ'
  | [], δ, μ, _, h => ⟨δ, μ, by simp [forL], h⟩
  | d :: ds, δ, μ, hs, h => by
    obtain ⟨δ1, δ', μ', e1, e2, p⟩ := hs d List.mem_cons_self δ μ h
    obtain ⟨δ2, μ2, e3, p2⟩ := forL_keep I (fun d hd => hs d (List.mem_cons_of_mem _ hd)) p
    exact ⟨δ2, μ2, by simp [forL, e1, e2, e3], p2⟩
/-! walks -/
@[simp] theorem srcL_lst : srcL (.lst ds) μ = .ok (ds, none) μ := rfl
theorem srcL_ptr : srcL (.ptr n) μ = (match lstAt μ n with | some ds => .ok (ds, some (n, .lst ds)) μ | none => .no) := by
  cases e : μ[n]? with
  | none => simp [srcL, lstAt, e]
  | some o => cases o <;> simp [srcL, lstAt, e]
@[simp] theorem srcT_tup : srcT (.tup ds) μ = .ok (ds, none) μ := rfl
@[simp] theorem srcS_str : srcS (.str z) μ = .ok (signsD z, none) μ := rfl
theorem srcR1_int (h : -1000000000 ≤ i ∧ i ≤ 1000000000) : srcR1 [.int i] μ = .ok (rngD 0 i.toNat, none) μ := if_pos h
theorem srcR2_int (h : -1000000000 ≤ j ∧ j ≤ 1000000000 ∧ -1000000000 ≤ i ∧ i ≤ 1000000000) : srcR2 [.int i, .int j] μ = .ok (rngD i (j - i).toNat, none) μ := if_pos h
@[simp] theorem srcE_lst : srcE [.lst ds] μ = .ok (enumD ds, none) μ := rfl
@[simp] theorem srcZ_lst : srcZ [.lst ds, .lst es] μ = .ok (zipD ds es, none) μ := rfl
@[simp] theorem mLc_ap {it : MI} {g : MG} {t : MT} {e : MX} {vs : List Nat} : mLc it g t e vs δ μ = (lcR it g t e vs δ μ).bind fun ds μ1 => .ok (.lst ds) μ1 := rfl
@[simp] theorem mLcN_ap {it : MI} {g : MG} {t : MT} {e : MX} {vs : List Nat} : mLcN it g t e vs δ μ = (lcR it g t e vs δ μ).bind fun ds μ1 => .ok (.ptr μ1.length) (μ1 ++ [.lst ds]) := rfl
@[simp] theorem lcR_ap {it : MI} {g : MG} {t : MT} {e : MX} {vs : List Nat} : lcR it g t e vs δ μ = (it δ μ).bind fun s μ1 => if s.1.length ≤ 1000000 then lcL g t e (wipeD δ vs) s.2 s.1 μ1 else .no := rfl
@[simp] theorem mChain_ap {f g : Dt → Dt → Mem → R Dt} {a b c : MX} : mChain f g a b c δ μ = (a δ μ).bind fun x μ1 => (b δ μ1).bind fun y μ2 => (f x y μ2).bind fun z μ3 => match z with
  | .bl k => if k = true then (c δ μ3).bind fun u μ4 => (g y u μ4).bind fun r μ5 => match r with
      | .bl l => .ok (.bl l) μ5
      | _ => .no
    else .ok (.bl false) μ3
  | _ => .no := rfl
/-! == -/
theorem oEq_int : oEq (.int i) (.int j) μ = .ok (.bl (i == j)) μ := by simp [oEq, toPM, PyData.eqv]
theorem oNe_int : oNe (.int i) (.int j) μ = .ok (.bl (!(i == j))) μ := by simp [oNe, toPM, PyData.eqv]
@[simp] theorem sRaise0_ap : sRaise0 n δ μ = .ex n [] [] δ μ := rfl
@[simp] theorem sBrk_ap : sBrk δ μ = .bk δ μ := rfl
@[simp] theorem sCnt_ap : sCnt δ μ = .ct δ μ := rfl
theorem mDef_ap {N np : Nat} {b : MS} {ds : List Dt} (h : ds.length = np) : mDef N np b ds μ = (b (ds.map some ++ List.replicate (N - np) none) μ).out := if_pos h
@[simp] theorem pm_nil {α : Type} {l : List α} : pm [] l = [] := rfl
@[simp] theorem pm_cons {α : Type} {l : List α} {idx : List Nat} : pm (n :: idx) l = (match l[n]? with | some d => d :: pm idx l | none => pm idx l) := by
  unfold pm
  rw [List.filterMap_cons]
  cases l[n]? <;> rfl
@[simp] theorem toI {k : Bool} : (if k = true then (1 : Int) else 0) = (k.toNat : Int) := by cases k <;> rfl
end
end DM

set_option linter.all false
set_option maxRecDepth 100000
set_option maxHeartbeats 4000000
/-! DU: classes and dicts at given data, for simp. -/
namespace DM
open PySem PySem.Spec PyProof.Rows L2 TL TX LM
open Classical
section
variable {β : Type} {μ : Mem} {d e x y : Dt} {ds es : List Dt} {z : Str} {f m : Str} {n i cn l : Nat} {δ : DM.Env} {a o c : MX} {as ks : MA} {g : List Dt → Mem → R Dt} {idx : List Nat} {md : List Dt} {nx ni : Nat → Str → Bool} {tb : Nat → Option (List Dt → Mem → R Dt)} {s : MS}
/-- e.f = y -/
def stFld (ni : Nat → Str → Bool) (f : Str) (δ : DM.Env) (y x : Dt) (μ : Mem) : O := match x with
  | .ptr i => match μ[i]? with
    | some (.ins n fs) => if ni n f = true ∧ fs.length < 1000 then .nx δ (μ.set i (.ins n (putD f y fs))) else .no
    | _ => .no
  | _ => .no
@[simp] theorem sFldM_ap : sFldM ni f a o δ μ = (a δ μ).thn δ fun y μ1 => (o δ μ1).thn δ fun x μ2 => stFld ni f δ y x μ2 := rfl
theorem stFld_ptr {cn : Nat} {fs : List (Str × Dt)} (h : μ[i]? = some (.ins cn fs)) (h1 : ni cn f = true) (h2 : fs.length < 1000) : stFld ni f δ y (.ptr i) μ = .nx δ (μ.set i (.ins cn (putD f y fs))) := by
  simp [stFld, h, h1, h2]
@[simp] theorem mMake_ap : mMake cn n l g idx md as ks δ μ = (as δ μ).bind fun ds μ1 => (ks δ μ1).bind fun es μ2 => if ds.length = n ∧ es.length = l then
  (g (pm idx ((.ptr μ2.length :: ds) ++ md ++ es)) (μ2 ++ [.ins cn []])).bind fun d μ3 => (match d with
    | .non => .ok (.ptr μ2.length) μ3
    | _ => .no) else .no := rfl
/-- the instance at i -/
def insAt (μ : Mem) (i : Nat) : Option (Nat × List (Str × Dt)) := match μ[i]? with
  | some (.ins n fs) => some (n, fs)
  | _ => none
theorem oFld_ptr : oFld nx ni f (.ptr i) μ = (match insAt μ i with
    | some (n, fs) => if ni n f = true then optR (fs.lookup f) μ else .no
    | none => .no) := by
  cases e : μ[i]? with
  | none => simp [oFld, insAt, e]
  | some u =>
    cases u with
    | ins n fs =>
      simp only [oFld, insAt, e]
      cases fs.lookup f <;> rfl
    | _ => simp [oFld, insAt, e]
theorem oFld_exc {ns : List Str} : oFld nx ni f (.exc n ns es) μ = if nx n f = true then optR ((ns.zip es).lookup f) μ else .no := by
  simp only [oFld]
  cases (ns.zip es).lookup f <;> rfl
theorem mMeth_ap : mMeth tb m n l idx md o as ks δ μ = (o δ μ).bind fun x μ0 => match x with
  | .ptr i => match insAt μ0 i with
    | some (cn, fs) => match tb cn, fs.lookup m with
      | some f, none => (as δ μ0).bind fun ds μ1 => (ks δ μ1).bind fun es μ2 => if ds.length = n ∧ es.length = l then f (pm idx ((.ptr i :: ds) ++ md ++ es)) μ2 else .no
      | _, _ => .no
    | _ => .no
  | _ => .no := by
  unfold mMeth
  congr 1
  funext x μ0
  cases x with
  | ptr i =>
    cases e : μ0[i]? with
    | none => simp [insAt, e]
    | some u =>
      cases u with
      | ins cn fs =>
        simp only [insAt, e]
        all_goals
          cases tb cn with
          | none => cases fs.lookup m <;> rfl
          | some g => cases fs.lookup m <;> rfl
      | _ => simp [insAt, e]
  | _ => rfl
/-! dicts -/
@[simp] theorem mDNew_ap : mDNew δ μ = .ok (.ptr μ.length) (μ ++ [.dK []]) := rfl
def dctAt (μ : Mem) (i : Nat) : Option (List (Key × Dt)) := match μ[i]? with
  | some (.dK kvs) => some kvs
  | _ => none
@[simp] theorem asK_ptr : asK μ (.ptr i) = dctAt μ i := rfl
@[simp] theorem keyD_str : keyD (.str z) = some (.inr z) := rfl
theorem oDGet_ptr : oDGet (.ptr i) (.str z) μ = (match dctAt μ i with
    | some kvs => optR (valD kvs (.inr z)) μ
    | none => .no) := by
  simp only [oDGet, asK_ptr, keyD_str]
  cases dctAt μ i with
  | none => rfl
  | some kvs => cases e : valD kvs (.inr z) <;> simp [e, optR]
theorem oDIn_ptr {k : Bool} : oDIn k (.str z) (.ptr i) μ = (match dctAt μ i with
    | some kvs => .ok (.bl (k ^^ (valD kvs (.inr z)).isSome)) μ
    | none => .no) := by
  simp only [oDIn, asK_ptr, keyD_str]
  cases dctAt μ i <;> rfl
@[simp] theorem mDGet2_ap : mDGet2 a o c δ μ = (a δ μ).bind fun x μ1 => if (asK μ1 x).isSome = true then (o δ μ1).bind fun y μ2 => (c δ μ2).bind fun z μ3 => (match asK μ3 x, keyD y with
  | some kvs, some k => .ok ((valD kvs k).getD z) μ3
  | _, _ => .no) else .no := rfl
@[simp] theorem mDPop1_ap : mDPop1 a o δ μ = (a δ μ).bind fun x μ1 => if (asK μ1 x).isSome = true then (o δ μ1).bind fun y μ2 => (match x, asK μ2 x, keyD y with
  | .ptr i, some kvs, some k => (match valD kvs k with
    | some d => .ok d (μ2.set i (.dK (dropKD kvs k)))
    | none => .no)
  | _, _, _ => .no) else .no := rfl
@[simp] theorem sDPutM_ap : sDPutM a o c δ μ = (a δ μ).thn δ fun y μ1 => (o δ μ1).thn δ fun x μ2 => (c δ μ2).thn δ fun z μ3 => stPut δ y x z μ3 := rfl
theorem stPut_ptr : stPut δ y (.ptr i) (.str z) μ = (match dctAt μ i with
    | some kvs => if kvs.length ≤ 1000000 then .nx δ (μ.set i (.dK (putKD kvs (.inr z) y))) else .no
    | none => .no) := by
  simp only [stPut, asK_ptr, keyD_str]
  cases dctAt μ i <;> rfl
@[simp] theorem sStuck_ap : sStuck δ μ = .no := rfl
theorem O_no {h : Prop} [Decidable h] {a : O} (q : h) : (if h then a else O.no) = a := if_pos q
/-! loops that end at the first bad one -/
theorem forL_all {tg : MG} {body : MS} (I : DM.Env → Prop) (p : Dt → Bool) (N : Nat) {μ : Mem} : ∀ {ds : List Dt} {δ : DM.Env},
    (∀ d ∈ ds, ∀ δ, I δ → ∃ δ1, tg d δ μ = some δ1 ∧ (p d = true → ∃ δ', body δ1 μ = .nx δ' μ ∧ I δ') ∧ (p d = false → ∃ δ', body δ1 μ = .ex N [] [] δ' μ)) → I δ →
    (ds.all p = true → ∃ δ', forL tg body none ds δ μ = .nx δ' μ ∧ I δ') ∧ (ds.all p = false → ∃ δ', forL tg body none ds δ μ = .ex N [] [] δ' μ)
  | [], δ, _, h => ⟨fun _ => ⟨δ, by simp [forL], h⟩, fun e => by simp at e⟩
  | d :: ds, δ, hs, h => by
    obtain ⟨δ1, e1, y, n⟩ := hs d List.mem_cons_self δ h
    cases hp : p d with
    | true =>
      obtain ⟨δ2, e2, h2⟩ := y hp
      obtain ⟨y', n'⟩ := forL_all I p N (ds := ds) (fun d hd => hs d (List.mem_cons_of_mem _ hd)) h2
      refine ⟨fun e => ?_, fun e => ?_⟩
      · rw [List.all_cons, hp, Bool.true_and] at e
        obtain ⟨δ3, e3, h3⟩ := y' e
        exact ⟨δ3, by simp [forL, e1, e2, e3], h3⟩
      · rw [List.all_cons, hp, Bool.true_and] at e
        obtain ⟨δ3, e3⟩ := n' e
        exact ⟨δ3, by simp [forL, e1, e2, e3]⟩
    | false =>
      obtain ⟨δ2, e2⟩ := n hp
      refine ⟨fun e => ?_, fun e => ⟨δ2, by simp [forL, e1, e2]⟩⟩
      rw [List.all_cons, hp, Bool.false_and] at e
      cases e
end
end DM

set_option linter.all false
set_option maxRecDepth 100000
set_option maxHeartbeats 4000000
/-! DV: simp facts for DMD, DME, DMF. -/
namespace DM
open PySem PySem.Spec PyProof.Rows L2 TL TX LM
open Classical
section
variable {μ : Mem} {δ : DM.Env} {n i cn : Nat} {fr : List Str} {ma : MA} {md ds : List Dt} {d : Dt} {tb : Nat → Option (List Dt → Mem → R Dt)} {g : List Dt → Mem → R Dt}
@[simp] theorem sRaiseX_ap : sRaiseX n fr ma md δ μ = (ma δ μ).thn δ fun es μ1 => if (es ++ md).length = fr.length ∧ fr.length ≤ 900 then .ex n fr (es ++ md).reverse δ μ1 else .no := rfl
def lenR (r : R Dt) : R Dt := match r with
  | .ok (.int k) μ1 => if 0 ≤ k ∧ k ≤ 1000000000 then .ok (.int k) μ1 else .no
  | _ => .no
theorem cLenM_at {fs : List (Str × Dt)} {f : List Dt → Mem → R Dt} (h : μ[i]? = some (.ins cn fs)) (ht : tb cn = some f) : cLenM tb [.ptr i] μ = lenR (f [.ptr i] μ) := by
  simp only [cLenM, h, ht]
  rfl
theorem lenR_nat {k : Nat} (h : k ≤ 1000000000) : lenR (.ok (.int (k : Int)) μ) = .ok (.int (k : Int)) μ := by
  exact if_pos ⟨by omega, by omega⟩
theorem cLenD_ptr : cLenD [.ptr i] μ = (match dctAt μ i with
    | some kvs => .ok (.int kvs.length) μ
    | none => .no) := by
  simp only [cLenD, asK_ptr]
  first | done | (cases dctAt μ i <;> rfl)
@[simp] theorem cqL_nil : cqL [] n = none := rfl
theorem cqL_in {ks : List Nat} (h : ks.contains n = true) : cqL ks n = some true := if_pos h
theorem tbl1_same {cn : Nat} : tbl1 cn g cn = some g := if_pos rfl
end
end DM

set_option linter.all false
set_option maxRecDepth 100000
set_option maxHeartbeats 4000000
set_option pp.maxSteps 400
set_option pp.deepTerms false
namespace K18
open PySem PySem.Spec PyProof.Rows L2 DM TL TX LM
def topS (i : Nat) : Stmt := PySem.Challenge.pw_loadhall_k18_other_finders.main.body.getD i (.Pass ⟨0, 0, 0, 0⟩)
abbrev s_is_part : Stmt := topS 20
theorem sc_is_part : FnScope ["thing", "sign"] ["thing"] (defScope s_is_part) := ⟨rfl, rfl, rfl, by decide +kernel, rfl, by decide +kernel, by decide +kernel⟩
abbrev s_look_at_path : Stmt := topS 112
theorem sc_look_at_path : FnScope ["thing", "part"] ["thing"] (defScope s_look_at_path) := ⟨rfl, rfl, rfl, by decide +kernel, rfl, by decide +kernel, by decide +kernel⟩
abbrev s_Lists___init__ : Stmt := inClass (topS 86) 0
theorem sc_Lists___init__ : FnScope ["self"] ["self"] (defScope s_Lists___init__) := ⟨rfl, rfl, rfl, by decide +kernel, rfl, by decide +kernel, by decide +kernel⟩
abbrev s_look_at_check : Stmt := topS 48
theorem sc_look_at_check : FnScope ["thing"] ["thing"] (defScope s_look_at_check) := ⟨rfl, rfl, rfl, by decide +kernel, rfl, by decide +kernel, by decide +kernel⟩
abbrev s_Forms___init__ : Stmt := inClass (topS 49) 0
theorem sc_Forms___init__ : FnScope ["self", "check"] ["self", "check"] (defScope s_Forms___init__) := ⟨rfl, rfl, rfl, by decide +kernel, rfl, by decide +kernel, by decide +kernel⟩
abbrev s_Hand___init__ : Stmt := inClass (topS 60) 0
theorem sc_Hand___init__ : FnScope ["self", "word", "module"] ["self", "word", "module"] (defScope s_Hand___init__) := ⟨rfl, rfl, rfl, by decide +kernel, rfl, by decide +kernel, by decide +kernel⟩
abbrev s_Module___init__ : Stmt := inClass (topS 53) 0
theorem sc_Module___init__ : FnScope ["self", "number", "name", "state", "places", "doer"] ["self", "number", "name", "state", "places", "doer"] (defScope s_Module___init__) := ⟨rfl, rfl, rfl, by decide +kernel, rfl, by decide +kernel, by decide +kernel⟩
abbrev s_new_module : Stmt := topS 66
theorem sc_new_module : FnScope ["hall", "name", "state", "places", "doer", "number"] ["hall", "name", "state", "places", "doer"] (defScope s_new_module) := ⟨rfl, rfl, rfl, by decide +kernel, rfl, by decide +kernel, by decide +kernel⟩
abbrev s_hand_of : Stmt := topS 67
theorem sc_hand_of : FnScope ["hall", "word"] ["hall", "word"] (defScope s_hand_of) := ⟨rfl, rfl, rfl, by decide +kernel, rfl, by decide +kernel, by decide +kernel⟩
abbrev s_Along___init__ : Stmt := inClass (topS 28) 0
theorem sc_Along___init__ : FnScope ["self"] ["self"] (defScope s_Along___init__) := ⟨rfl, rfl, rfl, by decide +kernel, rfl, by decide +kernel, by decide +kernel⟩
abbrev s_Store___init__ : Stmt := inClass (topS 85) 0
theorem sc_Store___init__ : FnScope ["self", "name"] ["self", "name"] (defScope s_Store___init__) := ⟨rfl, rfl, rfl, by decide +kernel, rfl, by decide +kernel, by decide +kernel⟩
abbrev s_Hall___init__ : Stmt := inClass (topS 113) 0
theorem sc_Hall___init__ : FnScope ["self", "path", "check", "part"] ["self", "path", "check"] (defScope s_Hall___init__) := ⟨rfl, rfl, rfl, by decide +kernel, rfl, by decide +kernel, by decide +kernel⟩
abbrev s_law_mixed : Stmt := topS 115
theorem sc_law_mixed : FnScope ["_law_cell_here", "_law_k", "_law_number"] ["_law_cell_here", "_law_k"] (defScope s_law_mixed) := ⟨rfl, rfl, rfl, by decide +kernel, rfl, by decide +kernel, by decide +kernel⟩
abbrev s_law_cell : Stmt := topS 116
theorem sc_law_cell : FnScope ["_law_script", "_law_k", "_law_cell_here", "_law_found", "_law_j"] ["_law_script", "_law_k"] (defScope s_law_cell) := ⟨rfl, rfl, rfl, by decide +kernel, rfl, by decide +kernel, by decide +kernel⟩
abbrev s_law_take : Stmt := topS 117
theorem sc_law_take : FnScope ["_law_pile", "_law_size", "_law_digit"] ["_law_pile", "_law_size"] (defScope s_law_take) := ⟨rfl, rfl, rfl, by decide +kernel, rfl, by decide +kernel, by decide +kernel⟩
abbrev s_no_finder : Stmt := topS 27
theorem sc_no_finder : FnScope [] [] (defScope s_no_finder) := ⟨rfl, rfl, rfl, by decide +kernel, rfl, by decide +kernel, by decide +kernel⟩
abbrev s_is_name : Stmt := topS 21
theorem sc_is_name : FnScope ["thing", "parts", "part"] ["thing"] (defScope s_is_name) := ⟨rfl, rfl, rfl, by decide +kernel, rfl, by decide +kernel, by decide +kernel⟩
abbrev s_Barred___init__ : Stmt := inClass (topS 31) 0
theorem sc_Barred___init__ : FnScope ["self", "names", "name"] ["self", "names"] (defScope s_Barred___init__) := ⟨rfl, rfl, rfl, by decide +kernel, rfl, by decide +kernel, by decide +kernel⟩
abbrev s_Built___init__ : Stmt := inClass (topS 29) 0
theorem sc_Built___init__ : FnScope ["self", "bodies", "body"] ["self", "bodies"] (defScope s_Built___init__) := ⟨rfl, rfl, rfl, by decide +kernel, rfl, by decide +kernel, by decide +kernel⟩
abbrev s_Other___init__ : Stmt := inClass (topS 30) 0
theorem sc_Other___init__ : FnScope ["self", "old", "new"] ["self", "old", "new"] (defScope s_Other___init__) := ⟨rfl, rfl, rfl, by decide +kernel, rfl, by decide +kernel, by decide +kernel⟩
abbrev s_law_made : Stmt := topS 122
theorem sc_law_made : FnScope ["_law_which", "_law_told", "_law_turn"] ["_law_which", "_law_told", "_law_turn"] (defScope s_law_made) := ⟨rfl, rfl, rfl, by decide +kernel, rfl, by decide +kernel, by decide +kernel⟩
abbrev s_law_due : Stmt := topS 121
theorem sc_law_due : FnScope ["_law_which", "_law_told", "_law_name_tolds", "_law_found", "_law_one", "_law_text"] ["_law_which", "_law_told", "_law_name_tolds"] (defScope s_law_due) := ⟨rfl, rfl, rfl, by decide +kernel, rfl, by decide +kernel, by decide +kernel⟩
abbrev s_Built_find : Stmt := inClass (topS 29) 1
theorem sc_Built_find : FnScope ["self", "name", "places", "hall", "one", "text"] ["self", "name", "places", "hall"] (defScope s_Built_find) := ⟨rfl, rfl, rfl, by decide +kernel, rfl, by decide +kernel, by decide +kernel⟩
abbrev s_Other_find : Stmt := inClass (topS 30) 1
theorem sc_Other_find : FnScope ["self", "name", "places", "hall"] ["self", "name", "places", "hall"] (defScope s_Other_find) := ⟨rfl, rfl, rfl, by decide +kernel, rfl, by decide +kernel, by decide +kernel⟩
abbrev s_Barred_find : Stmt := inClass (topS 31) 1
theorem sc_Barred_find : FnScope ["self", "name", "places", "hall"] ["self", "name", "places", "hall"] (defScope s_Barred_find) := ⟨rfl, rfl, rfl, by decide +kernel, rfl, by decide +kernel, by decide +kernel⟩
abbrev s_law_good : Stmt := topS 123
theorem sc_law_good : FnScope ["_law_which", "_law_told", "_law_names_told", "_law_hall_told", "_law_turn", "_law_finder", "_law_name_told", "_law_due_here", "_law_places_told"] ["_law_which", "_law_told", "_law_names_told", "_law_hall_told"] (defScope s_law_good) := ⟨rfl, rfl, rfl, by decide +kernel, rfl, by decide +kernel, by decide +kernel⟩
abbrev s_Hall_told : Stmt := inClass (topS 113) 16
theorem sc_Hall_told : FnScope ["self", "name", "number"] ["self"] (defScope s_Hall_told) := ⟨rfl, rfl, rfl, by decide +kernel, rfl, by decide +kernel, by decide +kernel⟩
abbrev s_law_part_drawn : Stmt := topS 118
theorem sc_law_part_drawn : FnScope ["_law_pile", "_law_way", "_law_many", "_law_k"] ["_law_pile"] (defScope s_law_part_drawn) := ⟨rfl, rfl, rfl, by decide +kernel, rfl, by decide +kernel, by decide +kernel⟩
abbrev s_law_name_drawn : Stmt := topS 119
theorem sc_law_name_drawn : FnScope ["_law_pile", "_law_most", "_law_k"] ["_law_pile", "_law_most"] (defScope s_law_name_drawn) := ⟨rfl, rfl, rfl, by decide +kernel, rfl, by decide +kernel, by decide +kernel⟩
abbrev s_law_text_drawn : Stmt := topS 120
theorem sc_law_text_drawn : FnScope ["_law_pile", "_law_some"] ["_law_pile"] (defScope s_law_text_drawn) := ⟨rfl, rfl, rfl, by decide +kernel, rfl, by decide +kernel, by decide +kernel⟩
abbrev s_law : Stmt := topS 124
theorem sc_law : FnScope ["_law_script", "_law_hall_told", "_law_k", "_law_pile", "_law_names_told", "_law_bodies_told", "_law_turn", "_law_old_told", "_law_told", "_law_barred"] ["_law_script"] (defScope s_law) := ⟨rfl, rfl, rfl, by decide +kernel, rfl, by decide +kernel, by decide +kernel⟩
def tabO : List (Nat × Nat × Bool) := []
def tabT : List (Nat × String × Bool) := []
def tabX : List Nat := []
def tab : Tab := tabOf tabX tabO tabT
def niL : List (Nat × Str) := [(14, Str.ofString "name"), (14, Str.ofString "bodies"), (14, Str.ofString "changed"), (15, Str.ofString "known"), (16, Str.ofString "check"), (16, Str.ofString "read"), (16, Str.ofString "made"), (16, Str.ofString "kept"), (17, Str.ofString "word"), (18, Str.ofString "word"), (18, Str.ofString "built"), (19, Str.ofString "word"), (19, Str.ofString "old"), (19, Str.ofString "new"), (20, Str.ofString "word"), (20, Str.ofString "barred"), (21, Str.ofString "clock"), (21, Str.ofString "lists"), (21, Str.ofString "forms"), (21, Str.ofString "finders"), (21, Str.ofString "path"), (21, Str.ofString "stores"), (21, Str.ofString "modules"), (21, Str.ofString "table"), (21, Str.ofString "workers"), (21, Str.ofString "log"), (21, Str.ofString "marks"), (22, Str.ofString "word"), (22, Str.ofString "module"), (22, Str.ofString "tasks"), (22, Str.ofString "had"), (22, Str.ofString "begun"), (22, Str.ofString "sleeper"), (24, Str.ofString "number"), (24, Str.ofString "name"), (24, Str.ofString "state"), (24, Str.ofString "places"), (24, Str.ofString "doer"), (24, Str.ofString "worths"), (24, Str.ofString "sums"), (24, Str.ofString "shown"), (24, Str.ofString "body")]
def nxL : List (Nat × Str) := []
def ni : Nat → Str → Bool := fldT niL
def nx : Nat → Str → Bool := fldT nxL
structure Glb (Γ : Gm) (mg : Str → Option Value) : Prop where
  tab : TabOk Γ.K Γ tab
  ni : InsOk Γ.K Γ ni
  nx : NoOk Γ.K Γ nx
  z_isinstance : mg "isinstance" = none
  z_str : mg "str" = none
  z_len : mg "len" = none
  z_all : mg "all" = none
  z_tuple : mg "tuple" = none
  z_range : mg "range" = none
  z_int : mg "int" = none
  z_sorted : mg "sorted" = none
  c_LONGEST : GC mg "LONGEST" (.int 8)
  c_SMALL : GC mg "SMALL" (.str "abcdefghijklmnopqrstuvwxyz")
  c_MOST_PARTS : GC mg "MOST_PARTS" (.int 4)
  g_NoStore : mg "NoStore" = some (.ref (Γ.c 1))
  g_NoLine : mg "NoLine" = some (.ref (Γ.c 4))
  g_Module : mg "Module" = some (.ref (Γ.c 24))
  g_Hand : mg "Hand" = some (.ref (Γ.c 22))
  g_Lists : mg "Lists" = some (.ref (Γ.c 15))
  g_Forms : mg "Forms" = some (.ref (Γ.c 16))
  g_Along : mg "Along" = some (.ref (Γ.c 17))
  g_Store : mg "Store" = some (.ref (Γ.c 14))
  g_NoFinder : mg "NoFinder" = some (.ref (Γ.c 2))
  g_Built : mg "Built" = some (.ref (Γ.c 18))
  g_Other : mg "Other" = some (.ref (Γ.c 19))
  g_Barred : mg "Barred" = some (.ref (Γ.c 20))
  g_Hall : mg "Hall" = some (.ref (Γ.c 21))
  g_CHECKS : mg "CHECKS" = some (.ref (Γ.c 64))
  kt_CHECKS : KTup Γ.K (Γ.c 64) [.str "stamp", .str "sum"]
  x_NoStore : PySem.W.excIn Γ.K (Γ.c 1) [.type "ValueError", .type "Exception", .type "BaseException", .type "object"] "ValueError.__new__" = true
  k_NoStore : PySem.W.keepIn Γ.K (.ref (Γ.c 1)) = true
  b_NoStore : PySem.W.subIn Γ.K (.ref (Γ.c 1)) (.type "BaseException") = some true
  t_NoStore : PySem.W.typeIn Γ.K (.ref (Γ.c 1)) = some (.type "type")
  x_NoLine : PySem.W.excIn Γ.K (Γ.c 4) [.type "ValueError", .type "Exception", .type "BaseException", .type "object"] "ValueError.__new__" = true
  k_NoLine : PySem.W.keepIn Γ.K (.ref (Γ.c 4)) = true
  b_NoLine : PySem.W.subIn Γ.K (.ref (Γ.c 4)) (.type "BaseException") = some true
  t_NoLine : PySem.W.typeIn Γ.K (.ref (Γ.c 4)) = some (.type "type")
  x_NoFinder : PySem.W.excIn Γ.K (Γ.c 2) [.type "ValueError", .type "Exception", .type "BaseException", .type "object"] "ValueError.__new__" = true
  k_NoFinder : PySem.W.keepIn Γ.K (.ref (Γ.c 2)) = true
  b_NoFinder : PySem.W.subIn Γ.K (.ref (Γ.c 2)) (.type "BaseException") = some true
  t_NoFinder : PySem.W.typeIn Γ.K (.ref (Γ.c 2)) = some (.type "type")
  q_Hall : KTup Γ.K (Γ.c 53) []
noncomputable def m_is_part : List Dt → Mem → R Dt := mDef 2 1 (sRet (mIf (mTest (mCB (cIsi tab) (mCons (mV 0) (mCons (mC (.ty "str")) mNil)))) (mIf (mTest (mChain oLe oLe (mC (.int 1)) (mCB cLen (mCons (mV 0) mNil)) (mC (.int 8)))) (mCB cAll (mCons (mLc (miStr (mV 0)) (gSet 1) mYes (mOp (oIn false) (mV 1) (mC (.str "abcdefghijklmnopqrstuvwxyz"))) [1]) mNil)) (mC (.bl false))) (mC (.bl false))))
noncomputable def m_look_at_path : List Dt → Mem → R Dt := mDef 2 1 (sSeq (sIf (mOr (mNot (mTest (mCB (cIsi tab) (mCons (mV 0) (mCons (mC (.ty "tuple")) mNil))))) (mNot (mTest (mCB cAll (mCons (mLc (miTup (mV 0)) (gSet 1) mYes (mCall 1 0 m_is_part [0] [] (mCons (mV 1) mNil) mNil) [1]) mNil))))) (sRaise0 1) sNext)
    (sIf (mTest (mOp oLt (mLenSk (miTup (mV 0)) (gSet 1) (mV 1) [1]) (mCB cLen (mCons (mV 0) mNil)))) (sRaise0 1) sNext))
noncomputable def m_Lists___init__ : List Dt → Mem → R Dt := mDef 1 1 (sFldM ni "known" mDNew (mV 0))
noncomputable def m_look_at_check : List Dt → Mem → R Dt := mDef 1 1 (sIf (mTest (mOp (oInT true) (mV 0) (mC (.ktp [.str "stamp", .str "sum"])))) (sRaise0 4) sNext)
noncomputable def m_Forms___init__ : List Dt → Mem → R Dt := mDef 2 2 (sSeq (sDrop (mCall 1 0 m_look_at_check [0] [] (mCons (mV 1) mNil) mNil))
    (sSeq (sFldM ni "check" (mV 1) (mV 0))
    (sSeq (sFldM ni "read" mTNew (mV 0))
    (sSeq (sFldM ni "made" (mC (.int 0)) (mV 0))
    (sFldM ni "kept" (mC (.int 0)) (mV 0))))))
noncomputable def m_Hand___init__ : List Dt → Mem → R Dt := mDef 3 3 (sSeq (sFldM ni "word" (mV 1) (mV 0))
    (sSeq (sFldM ni "module" (mV 2) (mV 0))
    (sSeq (sFldM ni "tasks" (mLst mNil) (mV 0))
    (sSeq (sFldM ni "had" (mC (.int 0)) (mV 0))
    (sSeq (sFldM ni "begun" (mC (.int 0)) (mV 0))
    (sFldM ni "sleeper" (mC .non) (mV 0)))))))
noncomputable def m_Module___init__ : List Dt → Mem → R Dt := mDef 6 6 (sSeq (sFldM ni "number" (mV 1) (mV 0))
    (sSeq (sFldM ni "name" (mV 2) (mV 0))
    (sSeq (sFldM ni "state" (mV 3) (mV 0))
    (sSeq (sFldM ni "places" (mV 4) (mV 0))
    (sSeq (sFldM ni "doer" (mV 5) (mV 0))
    (sSeq (sFldM ni "worths" mDNew (mV 0))
    (sSeq (sFldM ni "sums" mDNew (mV 0))
    (sSeq (sFldM ni "shown" (mC .non) (mV 0))
    (sFldM ni "body" (mC .non) (mV 0))))))))))
noncomputable def m_new_module : List Dt → Mem → R Dt := mDef 6 5 (sSeq (sAsg (mOp oAdd (mCB cLenD (mCons (mUn (oFld nx ni "modules") (mV 0)) mNil)) (mC (.int 1))) (gSet 5))
    (sSeq (sDPutM (mMake 24 3 2 m_Module___init__ [0, 1, 2, 3, 4, 5] [] (mCons (mV 5) (mCons (mV 1) (mCons (mV 2) mNil))) (mCons (mV 3) (mCons (mV 4) mNil))) (mUn (oFld nx ni "modules") (mV 0)) (mV 5))
    (sRet (mOp oDGet (mUn (oFld nx ni "modules") (mV 0)) (mV 5)))))
noncomputable def m_hand_of : List Dt → Mem → R Dt := mDef 2 2 (sSeq (sIf (mTest (mOp (oDIn true) (mV 1) (mUn (oFld nx ni "workers") (mV 0)))) (sDPutM (mMake 22 2 0 m_Hand___init__ [0, 1, 2] [] (mCons (mV 1) (mCons (mUn (oFld nx ni "number") (mCall 3 0 m_new_module [0, 1, 2, 3, 4] [.non, .non] (mCons (mV 0) (mCons (mV 1) (mCons (mC (.str "whole")) mNil))) mNil)) mNil)) mNil) (mUn (oFld nx ni "workers") (mV 0)) (mV 1)) sNext)
    (sRet (mOp oDGet (mUn (oFld nx ni "workers") (mV 0)) (mV 1))))
noncomputable def m_Along___init__ : List Dt → Mem → R Dt := mDef 1 1 (sFldM ni "word" (mC (.str "along")) (mV 0))
noncomputable def m_Store___init__ : List Dt → Mem → R Dt := mDef 2 2 (sSeq (sIf (mNot (mTest (mCall 1 0 m_is_part [0] [] (mCons (mV 1) mNil) mNil))) (sRaise0 1) sNext)
    (sSeq (sFldM ni "name" (mV 1) (mV 0))
    (sSeq (sFldM ni "bodies" mDNew (mV 0))
    (sFldM ni "changed" (mC (.int 0)) (mV 0)))))
noncomputable def m_Hall___init__ : List Dt → Mem → R Dt := mDef 4 3 (sSeq (sDrop (mCall 1 0 m_look_at_path [0] [] (mCons (mV 1) mNil) mNil))
    (sSeq (sFldM ni "clock" (mC (.int 0)) (mV 0))
    (sSeq (sFldM ni "lists" (mMake 15 0 0 m_Lists___init__ [0] [] mNil mNil) (mV 0))
    (sSeq (sFldM ni "forms" (mMake 16 0 1 m_Forms___init__ [0, 1] [] mNil (mCons (mV 2) mNil)) (mV 0))
    (sSeq (sFldM ni "finders" (mTup (mCons (mMake 17 0 0 m_Along___init__ [0] [] mNil mNil) mNil)) (mV 0))
    (sSeq (sFldM ni "path" (mV 1) (mV 0))
    (sSeq (sFldM ni "stores" (mDc (miTup (mV 1)) (gSet 3) (mV 3) (mMake 14 1 0 m_Store___init__ [0, 1] [] (mCons (mV 3) mNil) mNil) [3]) (mV 0))
    (sSeq (sFldM ni "modules" mDNew (mV 0))
    (sSeq (sFldM ni "table" mDNew (mV 0))
    (sSeq (sFldM ni "workers" mDNew (mV 0))
    (sSeq (sFldM ni "log" (mTup mNil) (mV 0))
    (sSeq (sFldM ni "marks" (mLst mNil) (mV 0))
    (sDrop (mCall 2 0 m_hand_of [0, 1] [] (mCons (mV 0) (mCons (mC (.str "")) mNil)) mNil))))))))))))))
noncomputable def m_law_mixed : List Dt → Mem → R Dt := mDef 3 2 (sSeq (sAsg (mOp oMod (mOp oAdd (mOp oAdd (mOp oMul (mOp oMod (mV 0) (mC (.int 2147483647))) (mC (.int 48271))) (mOp oMul (mV 1) (mC (.int 69621)))) (mC (.int 1048583))) (mC (.int 2147483629))) (gSet 2))
    (sSeq (sAsg (mOp oMod (mOp oMul (mV 2) (mV 2)) (mC (.int 2147483587))) (gSet 2))
    (sRet (mOp oMod (mOp oMul (mV 2) (mOp oAdd (mV 2) (mC (.int 2)))) (mC (.int 2147483579))))))
noncomputable def b_law_cell_1 : MS := (sAsg (mOp oAdd (mOp oMul (mV 3) (mC (.int 2147483579))) (mCall 2 0 m_law_mixed [0, 1] [] (mCons (mV 2) (mCons (mOp oAdd (mOp oAdd (mOp oMul (mC (.int 7)) (mV 1)) (mOp oMul (mC (.int 100)) (mV 4))) (mOp oMul (mV 4) (mV 4))) mNil)) mNil)) (gSet 3))
theorem b_law_cell_1_ap {δ : DM.Env} {μ : Mem} : b_law_cell_1 δ μ = (sAsg (mOp oAdd (mOp oMul (mV 3) (mC (.int 2147483579))) (mCall 2 0 m_law_mixed [0, 1] [] (mCons (mV 2) (mCons (mOp oAdd (mOp oAdd (mOp oMul (mC (.int 7)) (mV 1)) (mOp oMul (mC (.int 100)) (mV 4))) (mOp oMul (mV 4) (mV 4))) mNil)) mNil)) (gSet 3)) δ μ := rfl
noncomputable def m_law_cell : List Dt → Mem → R Dt := mDef 5 2 (sSeq (sAsg (mC (.int 0)) (gSet 2))
    (sSeq (sIf (mTest (mOp oLt (mV 1) (mCB cLen (mCons (mV 0) mNil)))) (sAsg (mOp oIx (mV 0) (mV 1)) (gSet 2)) sNext)
    (sSeq (sIf (mTest (mOp oGe (mV 2) (mOp oPow (mC (.int 10)) (mC (.int 18))))) (sRet (mOp oMod (mOp oSub (mV 2) (mOp oPow (mC (.int 10)) (mC (.int 18)))) (mOp oMul (mOp oMul (mOp oMul (mOp oPow (mC (.int 10)) (mC (.int 60))) (mOp oPow (mC (.int 10)) (mC (.int 60)))) (mOp oPow (mC (.int 10)) (mC (.int 60)))) (mOp oPow (mC (.int 10)) (mC (.int 60)))))) sNext)
    (sSeq (sAsg (mC (.int 0)) (gSet 3))
    (sSeq (sFor (miRng1 (mCons (mC (.int 24)) mNil)) (gSet 4) b_law_cell_1)
    (sRet (mV 3)))))))
noncomputable def m_law_take : List Dt → Mem → R Dt := mDef 3 2 (sSeq (sAsg (mOp oMod (mOp oIx (mV 0) (mC (.int 0))) (mV 1)) (gSet 2))
    (sSeq (sSub (mOp oFdiv (mOp oIx (mV 0) (mC (.int 0))) (mV 1)) (mV 0) (mC (.int 0)))
    (sRet (mV 2))))
noncomputable def m_no_finder : List Dt → Mem → R Dt := mDef 0 0 (sRaise0 2)
noncomputable def m_is_name : List Dt → Mem → R Dt := mDef 3 1 (sSeq (sIf (mNot (mTest (mCB (cIsi tab) (mCons (mV 0) (mCons (mC (.ty "str")) mNil))))) (sRet (mC (.bl false))) sNext)
    (sSeq (sAsg (mBM "str" bSplit (mV 0) (mCons (mC (.str ".")) mNil)) (gSet 1))
    (sRet (mIf (mTest (mOp oLe (mCB cLen (mCons (mV 1) mNil)) (mC (.int 4)))) (mCB cAll (mCons (mLc (miList (mV 1)) (gSet 2) mYes (mCall 1 0 m_is_part [0] [] (mCons (mV 2) mNil) mNil) [2]) mNil)) (mC (.bl false))))))
noncomputable def m_Barred___init__ : List Dt → Mem → R Dt := mDef 3 2 (sSeq (sIf (mOr (mNot (mTest (mCB (cIsi tab) (mCons (mV 1) (mCons (mC (.ty "tuple")) mNil))))) (mNot (mTest (mCB cAll (mCons (mLc (miTup (mV 1)) (gSet 2) mYes (mCall 1 0 m_is_name [0] [] (mCons (mV 2) mNil) mNil) [2]) mNil))))) (sDrop (mCall 0 0 m_no_finder [] [] mNil mNil)) sNext)
    (sSeq (sFldM ni "word" (mC (.str "barred")) (mV 0))
    (sFldM ni "barred" (mV 1) (mV 0))))
noncomputable def b_Built___init___1 : MS := (sIf (mOr (mNot (mTest (mCB (cIsi tab) (mCons (mV 2) (mCons (mC (.ty "tuple")) mNil))))) (mOr (mTest (mOp oNe (mCB cLen (mCons (mV 2) mNil)) (mC (.int 2)))) (mOr (mNot (mTest (mCall 1 0 m_is_name [0] [] (mCons (mOp oIx (mV 2) (mC (.int 0))) mNil) mNil))) (mNot (mTest (mCB (cIsi tab) (mCons (mOp oIx (mV 2) (mC (.int 1))) (mCons (mC (.ty "str")) mNil)))))))) (sDrop (mCall 0 0 m_no_finder [] [] mNil mNil)) sNext)
theorem b_Built___init___1_ap {δ : DM.Env} {μ : Mem} : b_Built___init___1 δ μ = (sIf (mOr (mNot (mTest (mCB (cIsi tab) (mCons (mV 2) (mCons (mC (.ty "tuple")) mNil))))) (mOr (mTest (mOp oNe (mCB cLen (mCons (mV 2) mNil)) (mC (.int 2)))) (mOr (mNot (mTest (mCall 1 0 m_is_name [0] [] (mCons (mOp oIx (mV 2) (mC (.int 0))) mNil) mNil))) (mNot (mTest (mCB (cIsi tab) (mCons (mOp oIx (mV 2) (mC (.int 1))) (mCons (mC (.ty "str")) mNil)))))))) (sDrop (mCall 0 0 m_no_finder [] [] mNil mNil)) sNext) δ μ := rfl
noncomputable def m_Built___init__ : List Dt → Mem → R Dt := mDef 3 2 (sSeq (sIf (mNot (mTest (mCB (cIsi tab) (mCons (mV 1) (mCons (mC (.ty "tuple")) mNil))))) (sDrop (mCall 0 0 m_no_finder [] [] mNil mNil)) sNext)
    (sSeq (sFor (miTup (mV 1)) (gSet 2) b_Built___init___1)
    (sSeq (sFldM ni "word" (mC (.str "built")) (mV 0))
    (sFldM ni "built" (mV 1) (mV 0)))))
noncomputable def m_Other___init__ : List Dt → Mem → R Dt := mDef 3 3 (sSeq (sIf (mOr (mNot (mTest (mCall 1 0 m_is_name [0] [] (mCons (mV 1) mNil) mNil))) (mNot (mTest (mCall 1 0 m_is_name [0] [] (mCons (mV 2) mNil) mNil)))) (sDrop (mCall 0 0 m_no_finder [] [] mNil mNil)) sNext)
    (sSeq (sFldM ni "word" (mC (.str "other")) (mV 0))
    (sSeq (sFldM ni "old" (mV 1) (mV 0))
    (sFldM ni "new" (mV 2) (mV 0)))))
noncomputable def m_law_made : List Dt → Mem → R Dt := mDef 3 3 (sSeq (sIf (mTest (mOp oEq (mV 0) (mC (.int 0)))) (sRet (mOp oIx (mLst (mCons (mMake 18 1 0 m_Built___init__ [0, 1] [] (mCons (mV 1) mNil) mNil) (mCons (mMake 18 0 1 m_Built___init__ [0, 1] [] mNil (mCons (mV 1) mNil)) mNil))) (mV 2))) sNext)
    (sSeq (sIf (mTest (mOp oEq (mV 0) (mC (.int 1)))) (sRet (mOp oIx (mLst (mCons (mMake 19 2 0 m_Other___init__ [0, 1, 2] [] (mCons (mOp oIx (mV 1) (mC (.int 0))) (mCons (mOp oIx (mV 1) (mC (.int 1))) mNil)) mNil) (mCons (mMake 19 0 2 m_Other___init__ [0, 2, 1] [] mNil (mCons (mOp oIx (mV 1) (mC (.int 1))) (mCons (mOp oIx (mV 1) (mC (.int 0))) mNil))) mNil))) (mV 2))) sNext)
    (sRet (mOp oIx (mLst (mCons (mMake 20 1 0 m_Barred___init__ [0, 1] [] (mCons (mV 1) mNil) mNil) (mCons (mMake 20 0 1 m_Barred___init__ [0, 1] [] mNil (mCons (mV 1) mNil)) mNil))) (mV 2)))))
noncomputable def m_law_due : List Dt → Mem → R Dt := mDef 6 3 (sSeq (sIf (mTest (mOp oEq (mV 0) (mC (.int 0)))) (sSeq (sAsg (mLc (miTup (mV 1)) (gTupM 2 (gsCons (gSet 4) (gsCons (gSet 5) gsNil))) (mTest (mOp oEq (mV 4) (mV 2))) (mV 5) [4, 5]) (gSet 3))
    (sRet (mOp oIx (mLst (mCons (mC .non) (mCons (mTup (mCons (mC (.str "built")) (mCons (mOp oIx (mOp oAdd (mV 3) (mLst (mCons (mC (.str "")) mNil))) (mC (.int 0))) (mCons (mC .non) mNil)))) mNil))) (mCB cInt (mCons (mOp oNe (mV 3) (mLst mNil)) mNil))))) sNext)
    (sSeq (sIf (mTest (mOp oEq (mV 0) (mC (.int 1)))) (sSeq (sIf (mTest (mOp oEq (mV 2) (mOp oIx (mV 1) (mC (.int 0))))) (sRet (mTup (mCons (mC (.str "other")) (mCons (mOp oIx (mV 1) (mC (.int 1))) (mCons (mC .non) mNil))))) sNext)
    (sSeq (sIf (mTest (mOp oEq (mSl oSl (mV 2) mNoPart (mPart (mOp oAdd (mCB cLen (mCons (mOp oIx (mV 1) (mC (.int 0))) mNil)) (mC (.int 1))))) (mOp oAdd (mOp oIx (mV 1) (mC (.int 0))) (mC (.str "."))))) (sRet (mTup (mCons (mC (.str "other")) (mCons (mOp oAdd (mOp oIx (mV 1) (mC (.int 1))) (mSl oSl (mV 2) (mPart (mCB cLen (mCons (mOp oIx (mV 1) (mC (.int 0))) mNil))) mNoPart)) (mCons (mC .non) mNil))))) sNext)
    (sRet (mC .non)))) sNext)
    (sRet (mOp oIx (mLst (mCons (mC .non) (mCons (mTup (mCons (mC (.str "barred")) (mCons (mC .non) (mCons (mC .non) mNil)))) mNil))) (mCB cInt (mCons (mOp (oIn false) (mV 2) (mV 1)) mNil))))))
noncomputable def b_Built_find_1 : MS := (sIf (mTest (mOp oEq (mV 4) (mV 1))) (sRet (mTup (mCons (mC (.str "built")) (mCons (mV 5) (mCons (mC .non) mNil))))) sNext)
theorem b_Built_find_1_ap {δ : DM.Env} {μ : Mem} : b_Built_find_1 δ μ = (sIf (mTest (mOp oEq (mV 4) (mV 1))) (sRet (mTup (mCons (mC (.str "built")) (mCons (mV 5) (mCons (mC .non) mNil))))) sNext) δ μ := rfl
noncomputable def m_Built_find : List Dt → Mem → R Dt := mDef 6 4 (sSeq (sFor (miTup (mUn (oFld nx ni "built") (mV 0))) (gTupM 2 (gsCons (gSet 4) (gsCons (gSet 5) gsNil))) b_Built_find_1)
    (sRet (mC .non)))
noncomputable def m_Other_find : List Dt → Mem → R Dt := mDef 4 4 (sSeq (sIf (mAnd (mTest (mOp oNe (mV 1) (mUn (oFld nx ni "old") (mV 0)))) (mNot (mTest (mBM "str" bStartswith (mV 1) (mCons (mOp oAdd (mUn (oFld nx ni "old") (mV 0)) (mC (.str "."))) mNil))))) (sRet (mC .non)) sNext)
    (sRet (mTup (mCons (mC (.str "other")) (mCons (mOp oAdd (mUn (oFld nx ni "new") (mV 0)) (mSl oSl (mV 1) (mPart (mCB cLen (mCons (mUn (oFld nx ni "old") (mV 0)) mNil))) mNoPart)) (mCons (mC .non) mNil))))))
noncomputable def m_Barred_find : List Dt → Mem → R Dt := mDef 4 4 (sSeq (sIf (mTest (mOp (oIn false) (mV 1) (mUn (oFld nx ni "barred") (mV 0)))) (sRet (mTup (mCons (mC (.str "barred")) (mCons (mC .non) (mCons (mC .non) mNil))))) sNext)
    (sRet (mC .non)))
noncomputable def b_law_good_3 : MS := (sIf (mTest (mOp oNe (mMeth (tblC [(18, m_Built_find), (19, m_Other_find), (20, m_Barred_find)]) "find" 3 0 [0, 1, 2, 3] [] (mV 5) (mCons (mV 6) (mCons (mV 8) (mCons (mV 3) mNil))) mNil) (mV 7))) (sRet (mC (.bl false))) sNext)
theorem b_law_good_3_ap {δ : DM.Env} {μ : Mem} : b_law_good_3 δ μ = (sIf (mTest (mOp oNe (mMeth (tblC [(18, m_Built_find), (19, m_Other_find), (20, m_Barred_find)]) "find" 3 0 [0, 1, 2, 3] [] (mV 5) (mCons (mV 6) (mCons (mV 8) (mCons (mV 3) mNil))) mNil) (mV 7))) (sRet (mC (.bl false))) sNext) δ μ := rfl
noncomputable def b_law_good_2 : MS := (sSeq (sAsg (mCall 3 0 m_law_due [0, 1, 2] [] (mCons (mV 0) (mCons (mV 1) (mCons (mV 6) mNil))) mNil) (gSet 7))
    (sFor (miList (mLst (mCons (mTup mNil) (mCons (mTup (mCons (mC (.str "one")) mNil)) mNil)))) (gSet 8) b_law_good_3))
theorem b_law_good_2_ap {δ : DM.Env} {μ : Mem} : b_law_good_2 δ μ = (sSeq (sAsg (mCall 3 0 m_law_due [0, 1, 2] [] (mCons (mV 0) (mCons (mV 1) (mCons (mV 6) mNil))) mNil) (gSet 7))
    (sFor (miList (mLst (mCons (mTup mNil) (mCons (mTup (mCons (mC (.str "one")) mNil)) mNil)))) (gSet 8) b_law_good_3)) δ μ := rfl
noncomputable def b_law_good_1 : MS := (sSeq (sAsg (mCall 3 0 m_law_made [0, 1, 2] [] (mCons (mV 0) (mCons (mV 1) (mCons (mV 4) mNil))) mNil) (gSet 5))
    (sSeq (sIf (mTest (mOp oNe (mUn (oFld nx ni "word") (mV 5)) (mOp oIx (mLst (mCons (mC (.str "built")) (mCons (mC (.str "other")) (mCons (mC (.str "barred")) mNil)))) (mV 0)))) (sRet (mC (.bl false))) sNext)
    (sFor (miList (mV 2)) (gSet 6) b_law_good_2)))
theorem b_law_good_1_ap {δ : DM.Env} {μ : Mem} : b_law_good_1 δ μ = (sSeq (sAsg (mCall 3 0 m_law_made [0, 1, 2] [] (mCons (mV 0) (mCons (mV 1) (mCons (mV 4) mNil))) mNil) (gSet 5))
    (sSeq (sIf (mTest (mOp oNe (mUn (oFld nx ni "word") (mV 5)) (mOp oIx (mLst (mCons (mC (.str "built")) (mCons (mC (.str "other")) (mCons (mC (.str "barred")) mNil)))) (mV 0)))) (sRet (mC (.bl false))) sNext)
    (sFor (miList (mV 2)) (gSet 6) b_law_good_2))) δ μ := rfl
noncomputable def m_law_good : List Dt → Mem → R Dt := mDef 9 4 (sSeq (sFor (miRng1 (mCons (mC (.int 2)) mNil)) (gSet 4) b_law_good_1)
    (sRet (mC (.bl true))))
noncomputable def m_Hall_told : List Dt → Mem → R Dt := mDef 3 1 (sRet (mLc (miList (mSortI0 (mUn (oFld nx ni "table") (mV 0)))) (gTupM 2 (gsCons (gSet 1) (gsCons (gSet 2) gsNil))) mYes (mOp oAdd (mOp oAdd (mV 1) (mC (.str " "))) (mUn (oFld nx ni "state") (mOp oDGet (mUn (oFld nx ni "modules") (mV 0)) (mV 2)))) [1, 2]))
noncomputable def m_law_part_drawn : List Dt → Mem → R Dt := mDef 4 1 (sSeq (sAsg (mCall 2 0 m_law_take [0, 1] [] (mCons (mV 0) (mCons (mC (.int 5)) mNil)) mNil) (gSet 1))
    (sSeq (sIf (mTest (mOp oLt (mV 1) (mC (.int 3)))) (sRet (mOp oIx (mLst (mCons (mC (.str "a")) (mCons (mC (.str "b")) (mCons (mC (.str "ab")) mNil)))) (mV 1))) sNext)
    (sSeq (sAsg (mOp oAdd (mC (.int 1)) (mCall 2 0 m_law_take [0, 1] [] (mCons (mV 0) (mCons (mC (.int 8)) mNil)) mNil)) (gSet 2))
    (sRet (mBM "str" bJoin (mC (.str "")) (mCons (mLc (miRng1 (mCons (mV 2) mNil)) (gSet 3) mYes (mOp oIx (mC (.str "abcdefghijklmnopqrstuvwxyz")) (mCall 2 0 m_law_take [0, 1] [] (mCons (mV 0) (mCons (mC (.int 26)) mNil)) mNil)) [3]) mNil))))))
noncomputable def m_law_name_drawn : List Dt → Mem → R Dt := mDef 3 2 (sRet (mBM "str" bJoin (mC (.str ".")) (mCons (mLc (miRng1 (mCons (mOp oAdd (mC (.int 1)) (mCall 2 0 m_law_take [0, 1] [] (mCons (mV 0) (mCons (mV 1) mNil)) mNil)) mNil)) (gSet 2) mYes (mCall 1 0 m_law_part_drawn [0] [] (mCons (mV 0) mNil) mNil) [2]) mNil)))
noncomputable def m_law_text_drawn : List Dt → Mem → R Dt := mDef 2 1 (sSeq (sAsg (mLst (mCons (mC (.str "")) (mCons (mC (.str "set a 1")) (mCons (mC (.str "set a 2")) (mCons (mC (.str "set b 1")) (mCons (mC (.str "note 7")) (mCons (mC (.str "set")) (mCons (mC (.str "x y")) (mCons (mC (.str "load a")) mNil))))))))) (gSet 1))
    (sSeq (sAsg (mOp oAdd (mV 1) (mLst (mCons (mC (.str "set a 1\nnote a")) (mCons (mC (.str "fail now")) (mCons (mC (.str "set a 12")) mNil))))) (gSet 1))
    (sRet (mOp oIx (mV 1) (mCall 2 0 m_law_take [0, 1] [] (mCons (mV 0) (mCons (mC (.int 11)) mNil)) mNil)))))
noncomputable def b_law_2 : MS := (sDrop (mBM "list" bAppend (mV 5) (mCons (mTup (mCons (mOp oIx (mV 4) (mCall 2 0 m_law_take [0, 1] [] (mCons (mV 3) (mCons (mC (.int 9)) mNil)) mNil)) (mCons (mCall 1 0 m_law_text_drawn [0] [] (mCons (mV 3) mNil) mNil) mNil))) mNil)))
theorem b_law_2_ap {δ : DM.Env} {μ : Mem} : b_law_2 δ μ = (sDrop (mBM "list" bAppend (mV 5) (mCons (mTup (mCons (mOp oIx (mV 4) (mCall 2 0 m_law_take [0, 1] [] (mCons (mV 3) (mCons (mC (.int 9)) mNil)) mNil)) (mCons (mCall 1 0 m_law_text_drawn [0] [] (mCons (mV 3) mNil) mNil) mNil))) mNil))) δ μ := rfl
noncomputable def b_law_1 : MS := (sSeq (sAsg (mNew (mCons (mCall 2 0 m_law_cell [0, 1] [] (mCons (mV 0) (mCons (mV 2) mNil)) mNil) mNil)) (gSet 3))
    (sSeq (sAsg (mNew (mCons (mC (.str "a")) (mCons (mC (.str "b")) (mCons (mC (.str "a.b")) (mCons (mC (.str "ab")) (mCons (mC (.str "a.b.ab")) (mCons (mC (.str "zz")) (mCons (mC (.str "aa.b")) mNil)))))))) (gSet 4))
    (sSeq (sAsg (mOp oCatN (mV 4) (mLst (mCons (mCall 2 0 m_law_name_drawn [0, 1] [] (mCons (mV 3) (mCons (mC (.int 3)) mNil)) mNil) (mCons (mCall 2 0 m_law_name_drawn [0, 1] [] (mCons (mV 3) (mCons (mC (.int 2)) mNil)) mNil) mNil)))) (gSet 4))
    (sSeq (sAsg (mNew mNil) (gSet 5))
    (sSeq (sFor (miRng1 (mCons (mCall 2 0 m_law_take [0, 1] [] (mCons (mV 3) (mCons (mC (.int 5)) mNil)) mNil) mNil)) (gSet 6) b_law_2)
    (sSeq (sAsg (mOp oIx (mV 4) (mCall 2 0 m_law_take [0, 1] [] (mCons (mV 3) (mCons (mC (.int 9)) mNil)) mNil)) (gSet 7))
    (sSeq (sDrop (mBM "list" bAppend (mV 4) (mCons (mOp oAdd (mV 7) (mC (.str ".q"))) mNil)))
    (sSeq (sIf (mNot (mTest (mCall 4 0 m_law_good [0, 1, 2, 3] [] (mCons (mC (.int 0)) (mCons (mCB cTup (mCons (mV 5) mNil)) (mCons (mV 4) (mCons (mV 1) mNil)))) mNil))) (sRet (mC (.bl false))) sNext)
    (sSeq (sAsg (mTup (mCons (mV 7) (mCons (mOp oIx (mV 4) (mCall 2 0 m_law_take [0, 1] [] (mCons (mV 3) (mCons (mC (.int 9)) mNil)) mNil)) mNil))) (gSet 8))
    (sSeq (sIf (mNot (mTest (mCall 4 0 m_law_good [0, 1, 2, 3] [] (mCons (mC (.int 1)) (mCons (mV 8) (mCons (mOp oAdd (mSl oSl (mV 4) mNoPart (mPart (mC (.int 7)))) (mLst (mCons (mV 7) (mCons (mOp oAdd (mV 7) (mC (.str ".q"))) (mCons (mC (.str "q")) mNil))))) (mCons (mV 1) mNil)))) mNil))) (sRet (mC (.bl false))) sNext)
    (sSeq (sAsg (mCB cTup (mCons (mLc (miRng1 (mCons (mCall 2 0 m_law_take [0, 1] [] (mCons (mV 3) (mCons (mC (.int 4)) mNil)) mNil) mNil)) (gSet 6) mYes (mOp oIx (mV 4) (mCall 2 0 m_law_take [0, 1] [] (mCons (mV 3) (mCons (mC (.int 9)) mNil)) mNil)) [6]) mNil)) (gSet 9))
    (sIf (mNot (mTest (mCall 4 0 m_law_good [0, 1, 2, 3] [] (mCons (mC (.int 2)) (mCons (mV 9) (mCons (mV 4) (mCons (mV 1) mNil)))) mNil))) (sRet (mC (.bl false))) sNext))))))))))))
theorem b_law_1_ap {δ : DM.Env} {μ : Mem} : b_law_1 δ μ = (sSeq (sAsg (mNew (mCons (mCall 2 0 m_law_cell [0, 1] [] (mCons (mV 0) (mCons (mV 2) mNil)) mNil) mNil)) (gSet 3))
    (sSeq (sAsg (mNew (mCons (mC (.str "a")) (mCons (mC (.str "b")) (mCons (mC (.str "a.b")) (mCons (mC (.str "ab")) (mCons (mC (.str "a.b.ab")) (mCons (mC (.str "zz")) (mCons (mC (.str "aa.b")) mNil)))))))) (gSet 4))
    (sSeq (sAsg (mOp oCatN (mV 4) (mLst (mCons (mCall 2 0 m_law_name_drawn [0, 1] [] (mCons (mV 3) (mCons (mC (.int 3)) mNil)) mNil) (mCons (mCall 2 0 m_law_name_drawn [0, 1] [] (mCons (mV 3) (mCons (mC (.int 2)) mNil)) mNil) mNil)))) (gSet 4))
    (sSeq (sAsg (mNew mNil) (gSet 5))
    (sSeq (sFor (miRng1 (mCons (mCall 2 0 m_law_take [0, 1] [] (mCons (mV 3) (mCons (mC (.int 5)) mNil)) mNil) mNil)) (gSet 6) b_law_2)
    (sSeq (sAsg (mOp oIx (mV 4) (mCall 2 0 m_law_take [0, 1] [] (mCons (mV 3) (mCons (mC (.int 9)) mNil)) mNil)) (gSet 7))
    (sSeq (sDrop (mBM "list" bAppend (mV 4) (mCons (mOp oAdd (mV 7) (mC (.str ".q"))) mNil)))
    (sSeq (sIf (mNot (mTest (mCall 4 0 m_law_good [0, 1, 2, 3] [] (mCons (mC (.int 0)) (mCons (mCB cTup (mCons (mV 5) mNil)) (mCons (mV 4) (mCons (mV 1) mNil)))) mNil))) (sRet (mC (.bl false))) sNext)
    (sSeq (sAsg (mTup (mCons (mV 7) (mCons (mOp oIx (mV 4) (mCall 2 0 m_law_take [0, 1] [] (mCons (mV 3) (mCons (mC (.int 9)) mNil)) mNil)) mNil))) (gSet 8))
    (sSeq (sIf (mNot (mTest (mCall 4 0 m_law_good [0, 1, 2, 3] [] (mCons (mC (.int 1)) (mCons (mV 8) (mCons (mOp oAdd (mSl oSl (mV 4) mNoPart (mPart (mC (.int 7)))) (mLst (mCons (mV 7) (mCons (mOp oAdd (mV 7) (mC (.str ".q"))) (mCons (mC (.str "q")) mNil))))) (mCons (mV 1) mNil)))) mNil))) (sRet (mC (.bl false))) sNext)
    (sSeq (sAsg (mCB cTup (mCons (mLc (miRng1 (mCons (mCall 2 0 m_law_take [0, 1] [] (mCons (mV 3) (mCons (mC (.int 4)) mNil)) mNil) mNil)) (gSet 6) mYes (mOp oIx (mV 4) (mCall 2 0 m_law_take [0, 1] [] (mCons (mV 3) (mCons (mC (.int 9)) mNil)) mNil)) [6]) mNil)) (gSet 9))
    (sIf (mNot (mTest (mCall 4 0 m_law_good [0, 1, 2, 3] [] (mCons (mC (.int 2)) (mCons (mV 9) (mCons (mV 4) (mCons (mV 1) mNil)))) mNil))) (sRet (mC (.bl false))) sNext)))))))))))) δ μ := rfl
noncomputable def m_law : List Dt → Mem → R Dt := mDef 10 1 (sSeq (sAsg (mMake 21 0 1 m_Hall___init__ [0, 2, 1] [.str "stamp"] mNil (mCons (mTup (mCons (mC (.str "one")) mNil)) mNil)) (gSet 1))
    (sSeq (sFor (miRng1 (mCons (mC (.int 4)) mNil)) (gSet 2) b_law_1)
    (sRet (mIf (mTest (mOp oEq (mMeth (tbl1 21 m_Hall_told) "told" 0 0 [0] [] (mV 1) mNil mNil) (mLst mNil))) (mOp oEq (mCB cLen (mCons (mUn (oFld nx ni "log") (mV 1)) mNil)) (mC (.int 0))) (mC (.bl false))))))
section
variable {P : Program} {w : World} {Γ : Gm} {mg : Str → Option Value} {base : Heap}
theorem ok_is_part {f : Addr} {fd : FuncData} (F : FunD Γ.K "is_part" "is_part" (defArgs s_is_part) (defBody s_is_part) (defScope s_is_part) [] [] f fd) (T : Glb Γ mg)  : FnOk P w Γ.K mg base (L2.CX P w) 1 f fd ["thing"] (FM Γ m_is_part) := by
  refine okN F sc_is_part (fun cdv A outer s H E hr => ?_)
  have hu := hr.units
  have nd := sc_is_part.nd
  have tk : Takes (cxOf (L2.CX P w) P w Γ.K mg base ["thing", "sign"] "is_part" (defScope s_is_part) f cdv A outer s H E) (fun cls d _ H => E cls d H) := takes_of rfl rfl rfl rfl
  exact ⟨_, (pss_one (ps_ret (pe_and (pe_callB (k_isU (K := Γ.K) rfl) (by rfl) T.z_isinstance (by decide +kernel) (pa_cons (pv 0) (pa_cons (pe_bltn (v := .ty "str") (by rfl) T.z_str (by decide +kernel) rfl) pa_nil))) (pe_and (pe_chain op_le op_le pe_int (pe_callB (k_len (K := Γ.K) rfl) (by rfl) T.z_len (by decide +kernel) (pa_cons (pv 0) pa_nil)) (pe_gc T.c_LONGEST (by rfl))) (pe_one (pe_callB (k_all (K := Γ.K) rfl rfl) (by rfl) T.z_all (by decide +kernel) (pa_cons (pe_lc (own := [("sign", 1)]) (g := gName 1) rfl nd (pi_str (pv 0)) (blkOk_by (N := ["thing", "sign"]) (sc := defScope s_is_part) (own := [("sign", 1)]) (by decide +kernel)) (fun _ _ _ _ _ => (pg_name (i := 1) nd rfl (Or.inl rfl))) (fun _ _ _ _ _ => pts_nil) (fun _ _ _ _ _ => by exact (pe_cmpR (k_in (K := Γ.K) rfl) (pv 1) (pe_gc T.c_SMALL (by rfl)) (by rfl)))) pa_nil))))))), (sv_ret (ev_andV (ev_cb (rc_isi T.tab) (av_cons (ev_v 0) (av_cons ev_ty av_nil))) (ev_andV (ev_chain ro_le ro_le ev_int (ev_cb rc_len (av_cons (ev_v 0) av_nil)) ev_int) (ev_cb rc_all (av_cons (ev_lc (iv_str (ev_v 0)) gv_name (gl_name (by decide)) tv_yes (ev_op ro_in (ev_v 1) ev_str)) av_nil)))))⟩
theorem ok_look_at_path {f : Addr} {fd : FuncData} (F : FunD Γ.K "look_at_path" "look_at_path" (defArgs s_look_at_path) (defBody s_look_at_path) (defScope s_look_at_path) [] [] f fd) (T : Glb Γ mg) (D_is_part : DefM P w Γ.K mg base "is_part" s_is_part 1 ["thing"] [] (FM Γ m_is_part)) : FnOk P w Γ.K mg base (L2.CX P w) 2 f fd ["thing"] (FM Γ m_look_at_path) := by
  refine okN F sc_look_at_path (fun cdv A outer s H E hr => ?_)
  have hu := hr.units
  have nd := sc_look_at_path.nd
  have tk : Takes (cxOf (L2.CX P w) P w Γ.K mg base ["thing", "part"] "look_at_path" (defScope s_look_at_path) f cdv A outer s H E) (fun cls d _ H => E cls d H) := takes_of rfl rfl rfl rfl
  exact ⟨_, (pss_cons (ps_if (PW.pt (pw_or (pt_not (pt_val (pe_callB (k_isU (K := Γ.K) rfl) (by rfl) T.z_isinstance (by decide +kernel) (pa_cons (pv 0) (pa_cons (pe_bltn (v := .ty "tuple") (by rfl) T.z_tuple (by decide +kernel) rfl) pa_nil))))) (pw_or1 (pt_not (pt_val (pe_callB (k_all (K := Γ.K) rfl rfl) (by rfl) T.z_all (by decide +kernel) (pa_cons (pe_lc (own := [("part", 1)]) (g := gName 1) rfl nd (k_pi_tup (K := Γ.K) rfl (pv 0)) (blkOk_by (N := ["thing", "part"]) (sc := defScope s_look_at_path) (own := [("part", 1)]) (by decide +kernel)) (fun _ _ _ _ _ => (pg_name (i := 1) nd rfl (Or.inl rfl))) (fun _ _ _ _ _ => pts_nil) (fun _ _ _ _ _ => by exact (pe_dMP D_is_part 1 [] [0] (fun _ h => nomatch h) (fun _ _ _ _ _ _ _ us mv ws hk h1 h2 h3 => match us, mv, ws, h1, h2, h3 with | [_], [], [], _, _, _ => rfl) (hr.mono (by decide)) takes0 (by rfl) (pa_cons (pv 1) pa_nil)))) pa_nil))))))) (pss_one (ps_raise rfl tk (pmk_own PySem.F.excBase_ValueError T.x_NoStore T.g_NoStore T.k_NoStore (raises_own T.b_NoStore T.t_NoStore) rfl))) pss_nil)
      (pss_one (ps_if (pt_cmpR op_lt (pe_lenSk (own := [("part", 1)]) (g := gName 1) rfl (by rfl) T.z_len nd (k_pi_tup (K := Γ.K) rfl (pv 0)) (blkOk_by (N := ["thing", "part"]) (sc := defScope s_look_at_path) (own := [("part", 1)]) (by decide +kernel)) (fun _ _ _ _ _ => (pg_name (i := 1) nd rfl (Or.inl rfl))) (fun _ _ _ _ _ => by exact (pv 1))) (pe_callB (k_len (K := Γ.K) rfl) (by rfl) T.z_len (by decide +kernel) (pa_cons (pv 0) pa_nil)) (nomark _)) (pss_one (ps_raise rfl tk (pmk_own PySem.F.excBase_ValueError T.x_NoStore T.g_NoStore T.k_NoStore (raises_own T.b_NoStore T.t_NoStore) rfl))) pss_nil))), (sv_seq (sv_if (tv_or (tv_not (tv_B (ev_cb (rc_isi T.tab) (av_cons (ev_v 0) (av_cons ev_ty av_nil))))) (tv_not (tv_B (ev_cb rc_all (av_cons (ev_lc (iv_tup (ev_v 0)) gv_name (gl_name (by decide)) tv_yes (ev_call (fun _ _ => RpL.nil) (av_cons (ev_v 1) av_nil) av_nil)) av_nil))))) sv_raise0 sv_next)
      (sv_if (tv_test (ev_op ro_lt (ev_lenSk (iv_tup (ev_v 0)) gv_name (gl_name (by decide)) (ev_v 1)) (ev_cb rc_len (av_cons (ev_v 0) av_nil)))) sv_raise0 sv_next))⟩
theorem ok_Lists___init__ {f : Addr} {fd : FuncData} (F : FunD Γ.K "__init__" "Lists.__init__" (defArgs s_Lists___init__) (defBody s_Lists___init__) (defScope s_Lists___init__) [] [] f fd) (T : Glb Γ mg)  : FnOk P w Γ.K mg base (L2.CX P w) 1 f fd ["self"] (FM Γ m_Lists___init__) := by
  refine okN F sc_Lists___init__ (fun cdv A outer s H E hr => ?_)
  have hu := hr.units
  have nd := sc_Lists___init__.nd
  have tk : Takes (cxOf (L2.CX P w) P w Γ.K mg base ["self"] "Lists.__init__" (defScope s_Lists___init__) f cdv A outer s H E) (fun cls d _ H => E cls d H) := takes_of rfl rfl rfl rfl
  exact ⟨_, (pss_one (k_fldS (K := Γ.K) rfl (pv 0) pe_dnewK)), (sv_fld T.ni ev_dnew (ev_v 0))⟩
theorem ok_look_at_check {f : Addr} {fd : FuncData} (F : FunD Γ.K "look_at_check" "look_at_check" (defArgs s_look_at_check) (defBody s_look_at_check) (defScope s_look_at_check) [] [] f fd) (T : Glb Γ mg)  : FnOk P w Γ.K mg base (L2.CX P w) 1 f fd ["thing"] (FM Γ m_look_at_check) := by
  refine okN F sc_look_at_check (fun cdv A outer s H E hr => ?_)
  have hu := hr.units
  have nd := sc_look_at_check.nd
  have tk : Takes (cxOf (L2.CX P w) P w Γ.K mg base ["thing"] "look_at_check" (defScope s_look_at_check) f cdv A outer s H E) (fun cls d _ H => E cls d H) := takes_of rfl rfl rfl rfl
  exact ⟨_, (pss_one (ps_if (pt_cmpR (op_notInT (K := Γ.K) rfl (hu65 hr)) (pv 0) (pe_glob (v := .ref (Γ.c 64)) (by rfl) T.g_CHECKS rfl) (by rfl)) (pss_one (ps_raise rfl tk (pmk_own PySem.F.excBase_ValueError T.x_NoLine T.g_NoLine T.k_NoLine (raises_own T.b_NoLine T.t_NoLine) rfl))) pss_nil)), (sv_if (tv_test (ev_op ro_inT (ev_v 0) (ev_ktp T.kt_CHECKS (fun _ => (RpL.cons (.str _) (RpL.cons (.str _) RpL.nil)))))) sv_raise0 sv_next)⟩
theorem ok_Forms___init__ {f : Addr} {fd : FuncData} (F : FunD Γ.K "__init__" "Forms.__init__" (defArgs s_Forms___init__) (defBody s_Forms___init__) (defScope s_Forms___init__) [] [("check", .str "stamp")] f fd) (T : Glb Γ mg) (D_look_at_check : DefM P w Γ.K mg base "look_at_check" s_look_at_check 1 ["thing"] [] (FM Γ m_look_at_check)) : FnOk P w Γ.K mg base (L2.CX P w) 2 f fd ["self", "check"] (FM Γ m_Forms___init__) := by
  refine okN F sc_Forms___init__ (fun cdv A outer s H E hr => ?_)
  have hu := hr.units
  have nd := sc_Forms___init__.nd
  have tk : Takes (cxOf (L2.CX P w) P w Γ.K mg base ["self", "check"] "Forms.__init__" (defScope s_Forms___init__) f cdv A outer s H E) (fun cls d _ H => E cls d H) := takes_of rfl rfl rfl rfl
  exact ⟨_, (pss_cons (ps_expr (pe_dMP D_look_at_check 1 [] [0] (fun _ h => nomatch h) (fun _ _ _ _ _ _ _ us mv ws hk h1 h2 h3 => match us, mv, ws, h1, h2, h3 with | [_], [], [], _, _, _ => rfl) (hr.mono (by decide)) tk (by rfl) (pa_cons (pv 1) pa_nil)))
      (pss_cons (k_fldS (K := Γ.K) rfl (pv 0) (pv 1))
      (pss_cons (k_fldS (K := Γ.K) rfl (pv 0) pe_dnewT)
      (pss_cons (k_fldS (K := Γ.K) rfl (pv 0) pe_int)
      (pss_one (k_fldS (K := Γ.K) rfl (pv 0) pe_int)))))), (sv_seq (sv_drop (ev_call (fun _ _ => RpL.nil) (av_cons (ev_v 1) av_nil) av_nil))
      (sv_seq (sv_fld T.ni (ev_v 1) (ev_v 0))
      (sv_seq (sv_fld T.ni ev_tnew (ev_v 0))
      (sv_seq (sv_fld T.ni ev_int (ev_v 0))
      (sv_fld T.ni ev_int (ev_v 0))))))⟩
theorem ok_Hand___init__ {f : Addr} {fd : FuncData} (F : FunD Γ.K "__init__" "Hand.__init__" (defArgs s_Hand___init__) (defBody s_Hand___init__) (defScope s_Hand___init__) [] [] f fd) (T : Glb Γ mg)  : FnOk P w Γ.K mg base (L2.CX P w) 1 f fd ["self", "word", "module"] (FM Γ m_Hand___init__) := by
  refine okN F sc_Hand___init__ (fun cdv A outer s H E hr => ?_)
  have hu := hr.units
  have nd := sc_Hand___init__.nd
  have tk : Takes (cxOf (L2.CX P w) P w Γ.K mg base ["self", "word", "module"] "Hand.__init__" (defScope s_Hand___init__) f cdv A outer s H E) (fun cls d _ H => E cls d H) := takes_of rfl rfl rfl rfl
  exact ⟨_, (pss_cons (k_fldS (K := Γ.K) rfl (pv 0) (pv 1))
      (pss_cons (k_fldS (K := Γ.K) rfl (pv 0) (pv 2))
      (pss_cons (k_fldS (K := Γ.K) rfl (pv 0) (pe_lst pa_nil))
      (pss_cons (k_fldS (K := Γ.K) rfl (pv 0) pe_int)
      (pss_cons (k_fldS (K := Γ.K) rfl (pv 0) pe_int)
      (pss_one (k_fldS (K := Γ.K) rfl (pv 0) pe_non))))))), (sv_seq (sv_fld T.ni (ev_v 1) (ev_v 0))
      (sv_seq (sv_fld T.ni (ev_v 2) (ev_v 0))
      (sv_seq (sv_fld T.ni (ev_lst av_nil) (ev_v 0))
      (sv_seq (sv_fld T.ni ev_int (ev_v 0))
      (sv_seq (sv_fld T.ni ev_int (ev_v 0))
      (sv_fld T.ni ev_non (ev_v 0)))))))⟩
theorem ok_Module___init__ {f : Addr} {fd : FuncData} (F : FunD Γ.K "__init__" "Module.__init__" (defArgs s_Module___init__) (defBody s_Module___init__) (defScope s_Module___init__) [] [("places", .non), ("doer", .non)] f fd) (T : Glb Γ mg)  : FnOk P w Γ.K mg base (L2.CX P w) 1 f fd ["self", "number", "name", "state", "places", "doer"] (FM Γ m_Module___init__) := by
  refine okN F sc_Module___init__ (fun cdv A outer s H E hr => ?_)
  have hu := hr.units
  have nd := sc_Module___init__.nd
  have tk : Takes (cxOf (L2.CX P w) P w Γ.K mg base ["self", "number", "name", "state", "places", "doer"] "Module.__init__" (defScope s_Module___init__) f cdv A outer s H E) (fun cls d _ H => E cls d H) := takes_of rfl rfl rfl rfl
  exact ⟨_, (pss_cons (k_fldS (K := Γ.K) rfl (pv 0) (pv 1))
      (pss_cons (k_fldS (K := Γ.K) rfl (pv 0) (pv 2))
      (pss_cons (k_fldS (K := Γ.K) rfl (pv 0) (pv 3))
      (pss_cons (k_fldS (K := Γ.K) rfl (pv 0) (pv 4))
      (pss_cons (k_fldS (K := Γ.K) rfl (pv 0) (pv 5))
      (pss_cons (k_fldS (K := Γ.K) rfl (pv 0) pe_dnewK)
      (pss_cons (k_fldS (K := Γ.K) rfl (pv 0) pe_dnewK)
      (pss_cons (k_fldS (K := Γ.K) rfl (pv 0) pe_non)
      (pss_one (k_fldS (K := Γ.K) rfl (pv 0) pe_non)))))))))), (sv_seq (sv_fld T.ni (ev_v 1) (ev_v 0))
      (sv_seq (sv_fld T.ni (ev_v 2) (ev_v 0))
      (sv_seq (sv_fld T.ni (ev_v 3) (ev_v 0))
      (sv_seq (sv_fld T.ni (ev_v 4) (ev_v 0))
      (sv_seq (sv_fld T.ni (ev_v 5) (ev_v 0))
      (sv_seq (sv_fld T.ni ev_dnew (ev_v 0))
      (sv_seq (sv_fld T.ni ev_dnew (ev_v 0))
      (sv_seq (sv_fld T.ni ev_non (ev_v 0))
      (sv_fld T.ni ev_non (ev_v 0))))))))))⟩
theorem ok_new_module {f : Addr} {fd : FuncData} (F : FunD Γ.K "new_module" "new_module" (defArgs s_new_module) (defBody s_new_module) (defScope s_new_module) [] [("places", .non), ("doer", .non)] f fd) (T : Glb Γ mg) (D_Module___init__ : DefI P w Γ.K mg base (Γ.c 24) "Module.__init__" s_Module___init__ 1 ["self", "number", "name", "state", "places", "doer"] [("places", .non), ("doer", .non)] (FM Γ m_Module___init__)) : FnOk P w Γ.K mg base (L2.CX P w) 3 f fd ["hall", "name", "state", "places", "doer"] (FM Γ m_new_module) := by
  refine okN F sc_new_module (fun cdv A outer s H E hr => ?_)
  have hu := hr.units
  have nd := sc_new_module.nd
  have tk : Takes (cxOf (L2.CX P w) P w Γ.K mg base ["hall", "name", "state", "places", "doer", "number"] "new_module" (defScope s_new_module) f cdv A outer s H E) (fun cls d _ H => E cls d H) := takes_of rfl rfl rfl rfl
  exact ⟨_, (pss_cons (ps_set (i := 5) nd rfl (Or.inl rfl) (pe_op uop_add (pe_callB k_lenD (by rfl) T.z_len (by decide +kernel) (pa_cons (k_fldU (K := Γ.K) rfl (pv 0)) pa_nil)) pe_int))
      (pss_cons (ps_dput (hu_of hr) (k_fldU (K := Γ.K) rfl (pv 0)) (pv 5) (pe_mI D_Module___init__ 3 ["places", "doer"] [] [0, 1, 2, 3, 4, 5] (fun _ h => nomatch h) (fun _ _ _ _ _ _ _ us mv ws hk h1 h2 h3 => match us, mv, ws, h1, h2, h3 with | [_, _, _, _], [], [_, _], _, _, _ => rfl) (hr.mono (by decide)) tk (by rfl) T.g_Module (pa_cons (pv 5) (pa_cons (pv 1) (pa_cons (pv 2) pa_nil))) (pk_cons (pv 3) (pk_cons (pv 4) pk_nil))) (by rfl))
      (pss_one (ps_ret (pe_dget (hu_of hr) (k_fldU (K := Γ.K) rfl (pv 0)) (pv 5) (fun _ _ => rfl)))))), (sv_seq (sv_asg (ev_op ro_add (ev_cb rc_lenD (av_cons (ev_fldU T.nx T.ni (ev_v 0)) av_nil)) ev_int) gv_name)
      (sv_seq (sv_dput (ev_make (fun _ _ => RpL.nil) (av_cons (ev_v 5) (av_cons (ev_v 1) (av_cons (ev_v 2) av_nil))) (av_cons (ev_v 3) (av_cons (ev_v 4) av_nil))) (ev_fldU T.nx T.ni (ev_v 0)) (ev_v 5))
      (sv_ret (ev_dget (ev_fldU T.nx T.ni (ev_v 0)) (ev_v 5)))))⟩
theorem ok_hand_of {f : Addr} {fd : FuncData} (F : FunD Γ.K "hand_of" "hand_of" (defArgs s_hand_of) (defBody s_hand_of) (defScope s_hand_of) [] [] f fd) (T : Glb Γ mg) (D_Hand___init__ : DefI P w Γ.K mg base (Γ.c 22) "Hand.__init__" s_Hand___init__ 1 ["self", "word", "module"] [] (FM Γ m_Hand___init__)) (D_new_module : DefM P w Γ.K mg base "new_module" s_new_module 3 ["hall", "name", "state", "places", "doer"] [("places", .non), ("doer", .non)] (FM Γ m_new_module)) : FnOk P w Γ.K mg base (L2.CX P w) 4 f fd ["hall", "word"] (FM Γ m_hand_of) := by
  refine okN F sc_hand_of (fun cdv A outer s H E hr => ?_)
  have hu := hr.units
  have nd := sc_hand_of.nd
  have tk : Takes (cxOf (L2.CX P w) P w Γ.K mg base ["hall", "word"] "hand_of" (defScope s_hand_of) f cdv A outer s H E) (fun cls d _ H => E cls d H) := takes_of rfl rfl rfl rfl
  exact ⟨_, (pss_cons (ps_if (pt_cmp (pc_dnotin (hu_of hr) (pv 1) (k_fldU (K := Γ.K) rfl (pv 0))) (by rfl)) (pss_one (ps_dput (hu_of hr) (k_fldU (K := Γ.K) rfl (pv 0)) (pv 1) (pe_mIP D_Hand___init__ 2 [] [0, 1, 2] (fun _ h => nomatch h) (fun _ _ _ _ _ _ _ us mv ws hk h1 h2 h3 => match us, mv, ws, h1, h2, h3 with | [_, _, _], [], [], _, _, _ => rfl) (hr.mono (by decide)) tk (by rfl) T.g_Hand (pa_cons (pv 1) (pa_cons (k_fldU (K := Γ.K) rfl (pe_dMP D_new_module 3 [("places", .non), ("doer", .non)] [0, 1, 2, 3, 4] (by simp) (fun _ _ _ _ _ _ _ us mv ws hk h1 h2 h3 => match us, mv, ws, h1, h2, h3 with | [_, _, _], [_, _], [], _, _, _ => by cases hk (List.cons_ne_nil _ _); exact ⟨_, _, _, _, _, _, rfl, rfl, ⟨_, _, _, _, _, _, rfl, rfl, rfl⟩⟩) (hr.mono (by decide)) tk (by rfl) (pa_cons (pv 0) (pa_cons (pv 1) (pa_cons pe_str pa_nil))))) pa_nil))) (by rfl))) pss_nil)
      (pss_one (ps_ret (pe_dget (hu_of hr) (k_fldU (K := Γ.K) rfl (pv 0)) (pv 1) (fun _ _ => rfl))))), (sv_seq (sv_if (tv_B (ev_dnin (ev_v 1) (ev_fldU T.nx T.ni (ev_v 0)))) (sv_dput (ev_make (fun _ _ => RpL.nil) (av_cons (ev_v 1) (av_cons (ev_fldU T.nx T.ni (ev_call (fun _ _ => (.cons (Rp.non) (.cons (Rp.non) RpL.nil))) (av_cons (ev_v 0) (av_cons (ev_v 1) (av_cons ev_str av_nil))) av_nil)) av_nil)) av_nil) (ev_fldU T.nx T.ni (ev_v 0)) (ev_v 1)) sv_next)
      (sv_ret (ev_dget (ev_fldU T.nx T.ni (ev_v 0)) (ev_v 1))))⟩
theorem ok_Along___init__ {f : Addr} {fd : FuncData} (F : FunD Γ.K "__init__" "Along.__init__" (defArgs s_Along___init__) (defBody s_Along___init__) (defScope s_Along___init__) [] [] f fd) (T : Glb Γ mg)  : FnOk P w Γ.K mg base (L2.CX P w) 1 f fd ["self"] (FM Γ m_Along___init__) := by
  refine okN F sc_Along___init__ (fun cdv A outer s H E hr => ?_)
  have hu := hr.units
  have nd := sc_Along___init__.nd
  have tk : Takes (cxOf (L2.CX P w) P w Γ.K mg base ["self"] "Along.__init__" (defScope s_Along___init__) f cdv A outer s H E) (fun cls d _ H => E cls d H) := takes_of rfl rfl rfl rfl
  exact ⟨_, (pss_one (k_fldS (K := Γ.K) rfl (pv 0) pe_str)), (sv_fld T.ni ev_str (ev_v 0))⟩
theorem ok_Store___init__ {f : Addr} {fd : FuncData} (F : FunD Γ.K "__init__" "Store.__init__" (defArgs s_Store___init__) (defBody s_Store___init__) (defScope s_Store___init__) [] [] f fd) (T : Glb Γ mg) (D_is_part : DefM P w Γ.K mg base "is_part" s_is_part 1 ["thing"] [] (FM Γ m_is_part)) : FnOk P w Γ.K mg base (L2.CX P w) 2 f fd ["self", "name"] (FM Γ m_Store___init__) := by
  refine okN F sc_Store___init__ (fun cdv A outer s H E hr => ?_)
  have hu := hr.units
  have nd := sc_Store___init__.nd
  have tk : Takes (cxOf (L2.CX P w) P w Γ.K mg base ["self", "name"] "Store.__init__" (defScope s_Store___init__) f cdv A outer s H E) (fun cls d _ H => E cls d H) := takes_of rfl rfl rfl rfl
  exact ⟨_, (pss_cons (ps_if (pt_not (pt_val (pe_dMP D_is_part 1 [] [0] (fun _ h => nomatch h) (fun _ _ _ _ _ _ _ us mv ws hk h1 h2 h3 => match us, mv, ws, h1, h2, h3 with | [_], [], [], _, _, _ => rfl) (hr.mono (by decide)) tk (by rfl) (pa_cons (pv 1) pa_nil)))) (pss_one (ps_raise rfl tk (pmk_own PySem.F.excBase_ValueError T.x_NoStore T.g_NoStore T.k_NoStore (raises_own T.b_NoStore T.t_NoStore) rfl))) pss_nil)
      (pss_cons (k_fldS (K := Γ.K) rfl (pv 0) (pv 1))
      (pss_cons (k_fldS (K := Γ.K) rfl (pv 0) pe_dnewK)
      (pss_one (k_fldS (K := Γ.K) rfl (pv 0) pe_int))))), (sv_seq (sv_if (tv_not (tv_B (ev_call (fun _ _ => RpL.nil) (av_cons (ev_v 1) av_nil) av_nil))) sv_raise0 sv_next)
      (sv_seq (sv_fld T.ni (ev_v 1) (ev_v 0))
      (sv_seq (sv_fld T.ni ev_dnew (ev_v 0))
      (sv_fld T.ni ev_int (ev_v 0)))))⟩
theorem ok_Hall___init__ {f : Addr} {fd : FuncData} (F : FunD Γ.K "__init__" "Hall.__init__" (defArgs s_Hall___init__) (defBody s_Hall___init__) (defScope s_Hall___init__) [] [("path", .ref (Γ.c 53)), ("check", .str "stamp")] f fd) (T : Glb Γ mg) (D_look_at_path : DefM P w Γ.K mg base "look_at_path" s_look_at_path 2 ["thing"] [] (FM Γ m_look_at_path)) (D_Lists___init__ : DefI P w Γ.K mg base (Γ.c 15) "Lists.__init__" s_Lists___init__ 1 ["self"] [] (FM Γ m_Lists___init__)) (D_Forms___init__ : DefI P w Γ.K mg base (Γ.c 16) "Forms.__init__" s_Forms___init__ 2 ["self", "check"] [("check", .str "stamp")] (FM Γ m_Forms___init__)) (D_hand_of : DefM P w Γ.K mg base "hand_of" s_hand_of 4 ["hall", "word"] [] (FM Γ m_hand_of)) (D_Along___init__ : DefI P w Γ.K mg base (Γ.c 17) "Along.__init__" s_Along___init__ 1 ["self"] [] (FM Γ m_Along___init__)) (D_Store___init__ : DefI P w Γ.K mg base (Γ.c 14) "Store.__init__" s_Store___init__ 2 ["self", "name"] [] (FM Γ m_Store___init__)) : FnOk P w Γ.K mg base (L2.CX P w) 5 f fd ["self", "path", "check"] (FM Γ m_Hall___init__) := by
  refine okN F sc_Hall___init__ (fun cdv A outer s H E hr => ?_)
  have hu := hr.units
  have nd := sc_Hall___init__.nd
  have tk : Takes (cxOf (L2.CX P w) P w Γ.K mg base ["self", "path", "check", "part"] "Hall.__init__" (defScope s_Hall___init__) f cdv A outer s H E) (fun cls d _ H => E cls d H) := takes_of rfl rfl rfl rfl
  exact ⟨_, (pss_cons (ps_expr (pe_dMP D_look_at_path 1 [] [0] (fun _ h => nomatch h) (fun _ _ _ _ _ _ _ us mv ws hk h1 h2 h3 => match us, mv, ws, h1, h2, h3 with | [_], [], [], _, _, _ => rfl) (hr.mono (by decide)) tk (by rfl) (pa_cons (pv 1) pa_nil)))
      (pss_cons (k_fldS (K := Γ.K) rfl (pv 0) pe_int)
      (pss_cons (k_fldS (K := Γ.K) rfl (pv 0) (pe_mIP0 D_Lists___init__ [] [0] (fun _ h => nomatch h) (fun _ _ _ _ _ _ _ us mv ws hk h1 h2 h3 => match us, mv, ws, h1, h2, h3 with | [_], [], [], _, _, _ => rfl) (hr.mono (by decide)) tk (by rfl) T.g_Lists))
      (pss_cons (k_fldS (K := Γ.K) rfl (pv 0) (pe_mI0 D_Forms___init__ ["check"] [] [0, 1] (fun _ h => nomatch h) (fun _ _ _ _ _ _ _ us mv ws hk h1 h2 h3 => match us, mv, ws, h1, h2, h3 with | [_], [], [_], _, _, _ => rfl) (hr.mono (by decide)) tk (by rfl) T.g_Forms (pk_cons (pv 2) pk_nil)))
      (pss_cons (k_fldS (K := Γ.K) rfl (pv 0) (pe_tup (pa_cons (pe_mIP0 D_Along___init__ [] [0] (fun _ h => nomatch h) (fun _ _ _ _ _ _ _ us mv ws hk h1 h2 h3 => match us, mv, ws, h1, h2, h3 with | [_], [], [], _, _, _ => rfl) (hr.mono (by decide)) tk (by rfl) T.g_Along) pa_nil)))
      (pss_cons (k_fldS (K := Γ.K) rfl (pv 0) (pv 1))
      (pss_cons (k_fldS (K := Γ.K) rfl (pv 0) (pe_dc (own := [("part", 3)]) (g := gName 3) rfl nd (k_pi_tup (K := Γ.K) rfl (pv 1)) (blkOk_by (N := ["self", "path", "check", "part"]) (sc := defScope s_Hall___init__) (own := [("part", 3)]) (by decide +kernel)) (fun _ _ _ _ _ => (pg_name (i := 3) nd rfl (Or.inl rfl))) (fun _ _ _ _ _ => pts_nil) (fun _ _ _ _ _ => by exact (pv 3)) (fun _ _ _ _ _ => by exact (pe_mIP D_Store___init__ 1 [] [0, 1] (fun _ h => nomatch h) (fun _ _ _ _ _ _ _ us mv ws hk h1 h2 h3 => match us, mv, ws, h1, h2, h3 with | [_, _], [], [], _, _, _ => rfl) (hr.mono (by decide)) takes0 (by rfl) T.g_Store (pa_cons (pv 3) pa_nil)))))
      (pss_cons (k_fldS (K := Γ.K) rfl (pv 0) pe_dnewK)
      (pss_cons (k_fldS (K := Γ.K) rfl (pv 0) pe_dnewK)
      (pss_cons (k_fldS (K := Γ.K) rfl (pv 0) pe_dnewK)
      (pss_cons (k_fldS (K := Γ.K) rfl (pv 0) (pe_tup pa_nil))
      (pss_cons (k_fldS (K := Γ.K) rfl (pv 0) (pe_lst pa_nil))
      (pss_one (ps_expr (pe_dMP D_hand_of 2 [] [0, 1] (fun _ h => nomatch h) (fun _ _ _ _ _ _ _ us mv ws hk h1 h2 h3 => match us, mv, ws, h1, h2, h3 with | [_, _], [], [], _, _, _ => rfl) (hr.mono (by decide)) tk (by rfl) (pa_cons (pv 0) (pa_cons pe_str pa_nil))))))))))))))))), (sv_seq (sv_drop (ev_call (fun _ _ => RpL.nil) (av_cons (ev_v 1) av_nil) av_nil))
      (sv_seq (sv_fld T.ni ev_int (ev_v 0))
      (sv_seq (sv_fld T.ni (ev_make (fun _ _ => RpL.nil) av_nil av_nil) (ev_v 0))
      (sv_seq (sv_fld T.ni (ev_make (fun _ _ => RpL.nil) av_nil (av_cons (ev_v 2) av_nil)) (ev_v 0))
      (sv_seq (sv_fld T.ni (ev_tup (av_cons (ev_make (fun _ _ => RpL.nil) av_nil av_nil) av_nil)) (ev_v 0))
      (sv_seq (sv_fld T.ni (ev_v 1) (ev_v 0))
      (sv_seq (sv_fld T.ni (ev_dc (iv_tup (ev_v 1)) gv_name (gl_name (by decide)) (ev_v 3) (ev_make (fun _ _ => RpL.nil) (av_cons (ev_v 3) av_nil) av_nil)) (ev_v 0))
      (sv_seq (sv_fld T.ni ev_dnew (ev_v 0))
      (sv_seq (sv_fld T.ni ev_dnew (ev_v 0))
      (sv_seq (sv_fld T.ni ev_dnew (ev_v 0))
      (sv_seq (sv_fld T.ni (ev_tup av_nil) (ev_v 0))
      (sv_seq (sv_fld T.ni (ev_lst av_nil) (ev_v 0))
      (sv_drop (ev_call (fun _ _ => RpL.nil) (av_cons (ev_v 0) (av_cons ev_str av_nil)) av_nil))))))))))))))⟩
theorem ok_law_mixed {f : Addr} {fd : FuncData} (F : FunD Γ.K "_law_mixed" "_law_mixed" (defArgs s_law_mixed) (defBody s_law_mixed) (defScope s_law_mixed) [] [] f fd) (T : Glb Γ mg)  : FnOk P w Γ.K mg base (L2.CX P w) 1 f fd ["_law_cell_here", "_law_k"] (FM Γ m_law_mixed) := by
  refine okN F sc_law_mixed (fun cdv A outer s H E hr => ?_)
  have hu := hr.units
  have nd := sc_law_mixed.nd
  have tk : Takes (cxOf (L2.CX P w) P w Γ.K mg base ["_law_cell_here", "_law_k", "_law_number"] "_law_mixed" (defScope s_law_mixed) f cdv A outer s H E) (fun cls d _ H => E cls d H) := takes_of rfl rfl rfl rfl
  exact ⟨_, (pss_cons (ps_set (i := 2) nd rfl (Or.inl rfl) (pe_op op_modN (pe_op uop_add (pe_op uop_add (pe_op uop_mul (pe_op op_modN (pv 0) pe_int) pe_int) (pe_op uop_mul (pv 1) pe_int)) pe_int) pe_int))
      (pss_cons (ps_set (i := 2) nd rfl (Or.inl rfl) (pe_op op_modN (pe_op uop_mul (pv 2) (pv 2)) pe_int))
      (pss_one (ps_ret (pe_op op_modN (pe_op uop_mul (pv 2) (pe_op uop_add (pv 2) pe_int)) pe_int))))), (sv_seq (sv_asg (ev_op ro_mod (ev_op ro_add (ev_op ro_add (ev_op ro_mul (ev_op ro_mod (ev_v 0) ev_int) ev_int) (ev_op ro_mul (ev_v 1) ev_int)) ev_int) ev_int) gv_name)
      (sv_seq (sv_asg (ev_op ro_mod (ev_op ro_mul (ev_v 2) (ev_v 2)) ev_int) gv_name)
      (sv_ret (ev_op ro_mod (ev_op ro_mul (ev_v 2) (ev_op ro_add (ev_v 2) ev_int)) ev_int))))⟩
theorem ok_law_cell {f : Addr} {fd : FuncData} (F : FunD Γ.K "_law_cell" "_law_cell" (defArgs s_law_cell) (defBody s_law_cell) (defScope s_law_cell) [] [] f fd) (T : Glb Γ mg) (D_law_mixed : DefM P w Γ.K mg base "_law_mixed" s_law_mixed 1 ["_law_cell_here", "_law_k"] [] (FM Γ m_law_mixed)) : FnOk P w Γ.K mg base (L2.CX P w) 2 f fd ["_law_script", "_law_k"] (FM Γ m_law_cell) := by
  refine okN F sc_law_cell (fun cdv A outer s H E hr => ?_)
  have hu := hr.units
  have nd := sc_law_cell.nd
  have tk : Takes (cxOf (L2.CX P w) P w Γ.K mg base ["_law_script", "_law_k", "_law_cell_here", "_law_found", "_law_j"] "_law_cell" (defScope s_law_cell) f cdv A outer s H E) (fun cls d _ H => E cls d H) := takes_of rfl rfl rfl rfl
  exact ⟨_, (pss_cons (ps_set (i := 2) nd rfl (Or.inl rfl) pe_int)
      (pss_cons (ps_if (pt_cmpR op_lt (pv 1) (pe_callB (k_len (K := Γ.K) rfl) (by rfl) T.z_len (by decide +kernel) (pa_cons (pv 0) pa_nil)) (nomark _)) (pss_one (ps_set (i := 2) nd rfl (Or.inl rfl) (pe_ix (k_ix (K := Γ.K) rfl) (pv 0) (pv 1) (fun _ _ => rfl)))) pss_nil)
      (pss_cons (ps_if (pt_cmpR op_ge (pv 2) (pe_op op_pow pe_int pe_int) (nomark _)) (pss_one (ps_ret (pe_op op_modN (pe_op op_sub (pv 2) (pe_op op_pow pe_int pe_int)) (pe_op uop_mul (pe_op uop_mul (pe_op uop_mul (pe_op op_pow pe_int pe_int) (pe_op op_pow pe_int pe_int)) (pe_op op_pow pe_int pe_int)) (pe_op op_pow pe_int pe_int))))) pss_nil)
      (pss_cons (ps_set (i := 3) nd rfl (Or.inl rfl) pe_int)
      (pss_cons (ps_for (passes_of rfl) rfl (pi_range1 (by rfl) T.z_range (pa_cons pe_int pa_nil)) (pg_name (i := 4) nd rfl (Or.inl rfl)) (pss_one (ps_set (i := 3) nd rfl (Or.inl rfl) (pe_op uop_add (pe_op uop_mul (pv 3) pe_int) (pe_dMP D_law_mixed 2 [] [0, 1] (fun _ h => nomatch h) (fun _ _ _ _ _ _ _ us mv ws hk h1 h2 h3 => match us, mv, ws, h1, h2, h3 with | [_, _], [], [], _, _, _ => rfl) (hr.mono (by decide)) tk (by rfl) (pa_cons (pv 2) (pa_cons (pe_op uop_add (pe_op uop_add (pe_op uop_mul pe_int (pv 1)) (pe_op uop_mul pe_int (pv 4))) (pe_op uop_mul (pv 4) (pv 4))) pa_nil)))))))
      (pss_one (ps_ret (pv 3)))))))), (sv_seq (sv_asg ev_int gv_name)
      (sv_seq (sv_if (tv_test (ev_op ro_lt (ev_v 1) (ev_cb rc_len (av_cons (ev_v 0) av_nil)))) (sv_asg (ev_op ro_ix (ev_v 0) (ev_v 1)) gv_name) sv_next)
      (sv_seq (sv_if (tv_test (ev_op ro_ge (ev_v 2) (ev_op ro_pow ev_int ev_int))) (sv_ret (ev_op ro_mod (ev_op ro_sub (ev_v 2) (ev_op ro_pow ev_int ev_int)) (ev_op ro_mul (ev_op ro_mul (ev_op ro_mul (ev_op ro_pow ev_int ev_int) (ev_op ro_pow ev_int ev_int)) (ev_op ro_pow ev_int ev_int)) (ev_op ro_pow ev_int ev_int)))) sv_next)
      (sv_seq (sv_asg ev_int gv_name)
      (sv_seq (sv_for (iv_rng1 (av_cons ev_int av_nil)) gv_name (sv_asg (ev_op ro_add (ev_op ro_mul (ev_v 3) ev_int) (ev_call (fun _ _ => RpL.nil) (av_cons (ev_v 2) (av_cons (ev_op ro_add (ev_op ro_add (ev_op ro_mul ev_int (ev_v 1)) (ev_op ro_mul ev_int (ev_v 4))) (ev_op ro_mul (ev_v 4) (ev_v 4))) av_nil)) av_nil)) gv_name))
      (sv_ret (ev_v 3)))))))⟩
theorem ok_law_take {f : Addr} {fd : FuncData} (F : FunD Γ.K "_law_take" "_law_take" (defArgs s_law_take) (defBody s_law_take) (defScope s_law_take) [] [] f fd) (T : Glb Γ mg)  : FnOk P w Γ.K mg base (L2.CX P w) 1 f fd ["_law_pile", "_law_size"] (FM Γ m_law_take) := by
  refine okN F sc_law_take (fun cdv A outer s H E hr => ?_)
  have hu := hr.units
  have nd := sc_law_take.nd
  have tk : Takes (cxOf (L2.CX P w) P w Γ.K mg base ["_law_pile", "_law_size", "_law_digit"] "_law_take" (defScope s_law_take) f cdv A outer s H E) (fun cls d _ H => E cls d H) := takes_of rfl rfl rfl rfl
  exact ⟨_, (pss_cons (ps_set (i := 2) nd rfl (Or.inl rfl) (pe_op op_modN (pe_ix (k_ix (K := Γ.K) rfl) (pv 0) pe_int (fun _ _ => rfl)) (pv 1)))
      (pss_cons (ps_asg (pe_op op_fdivN (pe_ix (k_ix (K := Γ.K) rfl) (pv 0) pe_int (fun _ _ => rfl)) (pv 1)) (pg_sub (pv 0) pe_int set_list))
      (pss_one (ps_ret (pv 2))))), (sv_seq (sv_asg (ev_op ro_mod (ev_op ro_ix (ev_v 0) ev_int) (ev_v 1)) gv_name)
      (sv_seq (sv_sub (ev_op ro_fdiv (ev_op ro_ix (ev_v 0) ev_int) (ev_v 1)) (ev_v 0) ev_int)
      (sv_ret (ev_v 2))))⟩
theorem ok_no_finder {f : Addr} {fd : FuncData} (F : FunD Γ.K "no_finder" "no_finder" (defArgs s_no_finder) (defBody s_no_finder) (defScope s_no_finder) [] [] f fd) (T : Glb Γ mg)  : FnOk P w Γ.K mg base (L2.CX P w) 1 f fd [] (FM Γ m_no_finder) := by
  refine okN F sc_no_finder (fun cdv A outer s H E hr => ?_)
  have hu := hr.units
  have nd := sc_no_finder.nd
  have tk : Takes (cxOf (L2.CX P w) P w Γ.K mg base [] "no_finder" (defScope s_no_finder) f cdv A outer s H E) (fun cls d _ H => E cls d H) := takes_of rfl rfl rfl rfl
  exact ⟨_, (pss_one (ps_raise rfl tk (pmk_own PySem.F.excBase_ValueError T.x_NoFinder T.g_NoFinder T.k_NoFinder (raises_own T.b_NoFinder T.t_NoFinder) rfl))), sv_raise0⟩
theorem ok_is_name {f : Addr} {fd : FuncData} (F : FunD Γ.K "is_name" "is_name" (defArgs s_is_name) (defBody s_is_name) (defScope s_is_name) [] [] f fd) (T : Glb Γ mg) (D_is_part : DefM P w Γ.K mg base "is_part" s_is_part 1 ["thing"] [] (FM Γ m_is_part)) : FnOk P w Γ.K mg base (L2.CX P w) 2 f fd ["thing"] (FM Γ m_is_name) := by
  refine okN F sc_is_name (fun cdv A outer s H E hr => ?_)
  have hu := hr.units
  have nd := sc_is_name.nd
  have tk : Takes (cxOf (L2.CX P w) P w Γ.K mg base ["thing", "parts", "part"] "is_name" (defScope s_is_name) f cdv A outer s H E) (fun cls d _ H => E cls d H) := takes_of rfl rfl rfl rfl
  exact ⟨_, (pss_cons (ps_if (pt_not (pt_val (pe_callB (k_isU (K := Γ.K) rfl) (by rfl) T.z_isinstance (by decide +kernel) (pa_cons (pv 0) (pa_cons (pe_bltn (v := .ty "str") (by rfl) T.z_str (by decide +kernel) rfl) pa_nil))))) (pss_one (ps_ret pe_bl)) pss_nil)
      (pss_cons (ps_set (i := 1) nd rfl (Or.inl rfl) (k_bm (K := Γ.K) rfl PySem.F.plainAttrs_str PySem.F.slot_str_split PySem.F.type_str_split umt_split (pv 0) (pa_cons pe_str pa_nil)))
      (pss_one (ps_ret (pe_and (pe_cmpR op_le (pe_callB (k_len (K := Γ.K) rfl) (by rfl) T.z_len (by decide +kernel) (pa_cons (pv 1) pa_nil)) (pe_gc T.c_MOST_PARTS (by rfl)) (nomark _)) (pe_one (pe_callB (k_all (K := Γ.K) rfl rfl) (by rfl) T.z_all (by decide +kernel) (pa_cons (pe_lc (own := [("part", 2)]) (g := gName 2) rfl nd (k_pi_list (K := Γ.K) rfl (pv 1)) (blkOk_by (N := ["thing", "parts", "part"]) (sc := defScope s_is_name) (own := [("part", 2)]) (by decide +kernel)) (fun _ _ _ _ _ => (pg_name (i := 2) nd rfl (Or.inl rfl))) (fun _ _ _ _ _ => pts_nil) (fun _ _ _ _ _ => by exact (pe_dMP D_is_part 1 [] [0] (fun _ h => nomatch h) (fun _ _ _ _ _ _ _ us mv ws hk h1 h2 h3 => match us, mv, ws, h1, h2, h3 with | [_], [], [], _, _, _ => rfl) (hr.mono (by decide)) takes0 (by rfl) (pa_cons (pv 2) pa_nil)))) pa_nil)))))))), (sv_seq (sv_if (tv_not (tv_B (ev_cb (rc_isi T.tab) (av_cons (ev_v 0) (av_cons ev_ty av_nil))))) (sv_ret ev_bl) sv_next)
      (sv_seq (sv_asg (ev_bm rm_split (ev_v 0) (av_cons ev_str av_nil)) gv_name)
      (sv_ret (ev_andV (ev_op ro_le (ev_cb rc_len (av_cons (ev_v 1) av_nil)) ev_int) (ev_cb rc_all (av_cons (ev_lc (iv_list (ev_v 1)) gv_name (gl_name (by decide)) tv_yes (ev_call (fun _ _ => RpL.nil) (av_cons (ev_v 2) av_nil) av_nil)) av_nil))))))⟩
theorem ok_Barred___init__ {f : Addr} {fd : FuncData} (F : FunD Γ.K "__init__" "Barred.__init__" (defArgs s_Barred___init__) (defBody s_Barred___init__) (defScope s_Barred___init__) [] [] f fd) (T : Glb Γ mg) (D_no_finder : DefM P w Γ.K mg base "no_finder" s_no_finder 1 [] [] (FM Γ m_no_finder)) (D_is_name : DefM P w Γ.K mg base "is_name" s_is_name 2 ["thing"] [] (FM Γ m_is_name)) : FnOk P w Γ.K mg base (L2.CX P w) 3 f fd ["self", "names"] (FM Γ m_Barred___init__) := by
  refine okN F sc_Barred___init__ (fun cdv A outer s H E hr => ?_)
  have hu := hr.units
  have nd := sc_Barred___init__.nd
  have tk : Takes (cxOf (L2.CX P w) P w Γ.K mg base ["self", "names", "name"] "Barred.__init__" (defScope s_Barred___init__) f cdv A outer s H E) (fun cls d _ H => E cls d H) := takes_of rfl rfl rfl rfl
  exact ⟨_, (pss_cons (ps_if (PW.pt (pw_or (pt_not (pt_val (pe_callB (k_isU (K := Γ.K) rfl) (by rfl) T.z_isinstance (by decide +kernel) (pa_cons (pv 1) (pa_cons (pe_bltn (v := .ty "tuple") (by rfl) T.z_tuple (by decide +kernel) rfl) pa_nil))))) (pw_or1 (pt_not (pt_val (pe_callB (k_all (K := Γ.K) rfl rfl) (by rfl) T.z_all (by decide +kernel) (pa_cons (pe_lc (own := [("name", 2)]) (g := gName 2) rfl nd (k_pi_tup (K := Γ.K) rfl (pv 1)) (blkOk_by (N := ["self", "names", "name"]) (sc := defScope s_Barred___init__) (own := [("name", 2)]) (by decide +kernel)) (fun _ _ _ _ _ => (pg_name (i := 2) nd rfl (Or.inl rfl))) (fun _ _ _ _ _ => pts_nil) (fun _ _ _ _ _ => by exact (pe_dMP D_is_name 1 [] [0] (fun _ h => nomatch h) (fun _ _ _ _ _ _ _ us mv ws hk h1 h2 h3 => match us, mv, ws, h1, h2, h3 with | [_], [], [], _, _, _ => rfl) (hr.mono (by decide)) takes0 (by rfl) (pa_cons (pv 2) pa_nil)))) pa_nil))))))) (pss_one (ps_expr (pe_dMP0 D_no_finder [] [] (fun _ h => nomatch h) (fun _ _ _ _ _ _ _ us mv ws hk h1 h2 h3 => match us, mv, ws, h1, h2, h3 with | [], [], [], _, _, _ => rfl) (hr.mono (by decide)) tk (by rfl)))) pss_nil)
      (pss_cons (k_fldS (K := Γ.K) rfl (pv 0) pe_str)
      (pss_one (k_fldS (K := Γ.K) rfl (pv 0) (pv 1))))), (sv_seq (sv_if (tv_or (tv_not (tv_B (ev_cb (rc_isi T.tab) (av_cons (ev_v 1) (av_cons ev_ty av_nil))))) (tv_not (tv_B (ev_cb rc_all (av_cons (ev_lc (iv_tup (ev_v 1)) gv_name (gl_name (by decide)) tv_yes (ev_call (fun _ _ => RpL.nil) (av_cons (ev_v 2) av_nil) av_nil)) av_nil))))) (sv_drop (ev_call (fun _ _ => RpL.nil) av_nil av_nil)) sv_next)
      (sv_seq (sv_fld T.ni ev_str (ev_v 0))
      (sv_fld T.ni (ev_v 1) (ev_v 0))))⟩
theorem ok_Built___init__ {f : Addr} {fd : FuncData} (F : FunD Γ.K "__init__" "Built.__init__" (defArgs s_Built___init__) (defBody s_Built___init__) (defScope s_Built___init__) [] [] f fd) (T : Glb Γ mg) (D_no_finder : DefM P w Γ.K mg base "no_finder" s_no_finder 1 [] [] (FM Γ m_no_finder)) (D_is_name : DefM P w Γ.K mg base "is_name" s_is_name 2 ["thing"] [] (FM Γ m_is_name)) : FnOk P w Γ.K mg base (L2.CX P w) 3 f fd ["self", "bodies"] (FM Γ m_Built___init__) := by
  refine okN F sc_Built___init__ (fun cdv A outer s H E hr => ?_)
  have hu := hr.units
  have nd := sc_Built___init__.nd
  have tk : Takes (cxOf (L2.CX P w) P w Γ.K mg base ["self", "bodies", "body"] "Built.__init__" (defScope s_Built___init__) f cdv A outer s H E) (fun cls d _ H => E cls d H) := takes_of rfl rfl rfl rfl
  exact ⟨_, (pss_cons (ps_if (pt_not (pt_val (pe_callB (k_isU (K := Γ.K) rfl) (by rfl) T.z_isinstance (by decide +kernel) (pa_cons (pv 1) (pa_cons (pe_bltn (v := .ty "tuple") (by rfl) T.z_tuple (by decide +kernel) rfl) pa_nil))))) (pss_one (ps_expr (pe_dMP0 D_no_finder [] [] (fun _ h => nomatch h) (fun _ _ _ _ _ _ _ us mv ws hk h1 h2 h3 => match us, mv, ws, h1, h2, h3 with | [], [], [], _, _, _ => rfl) (hr.mono (by decide)) tk (by rfl)))) pss_nil)
      (pss_cons (ps_for (passes_of rfl) rfl (k_pi_tup (K := Γ.K) rfl (pv 1)) (pg_name (i := 2) nd rfl (Or.inl rfl)) (pss_one (ps_if (PW.pt (pw_or (pt_not (pt_val (pe_callB (k_isU (K := Γ.K) rfl) (by rfl) T.z_isinstance (by decide +kernel) (pa_cons (pv 2) (pa_cons (pe_bltn (v := .ty "tuple") (by rfl) T.z_tuple (by decide +kernel) rfl) pa_nil))))) (pw_or (pt_cmpR (k_ne (K := Γ.K) rfl hu) (pe_callB (k_len (K := Γ.K) rfl) (by rfl) T.z_len (by decide +kernel) (pa_cons (pv 2) pa_nil)) pe_int (nomark _)) (pw_or (pt_not (pt_val (pe_dMP D_is_name 1 [] [0] (fun _ h => nomatch h) (fun _ _ _ _ _ _ _ us mv ws hk h1 h2 h3 => match us, mv, ws, h1, h2, h3 with | [_], [], [], _, _, _ => rfl) (hr.mono (by decide)) tk (by rfl) (pa_cons (pe_ix (k_ix (K := Γ.K) rfl) (pv 2) pe_int (fun _ _ => rfl)) pa_nil)))) (pw_or1 (pt_not (pt_val (pe_callB (k_isU (K := Γ.K) rfl) (by rfl) T.z_isinstance (by decide +kernel) (pa_cons (pe_ix (k_ix (K := Γ.K) rfl) (pv 2) pe_int (fun _ _ => rfl)) (pa_cons (pe_bltn (v := .ty "str") (by rfl) T.z_str (by decide +kernel) rfl) pa_nil)))))))))) (pss_one (ps_expr (pe_dMP0 D_no_finder [] [] (fun _ h => nomatch h) (fun _ _ _ _ _ _ _ us mv ws hk h1 h2 h3 => match us, mv, ws, h1, h2, h3 with | [], [], [], _, _, _ => rfl) (hr.mono (by decide)) tk (by rfl)))) pss_nil)))
      (pss_cons (k_fldS (K := Γ.K) rfl (pv 0) pe_str)
      (pss_one (k_fldS (K := Γ.K) rfl (pv 0) (pv 1)))))), (sv_seq (sv_if (tv_not (tv_B (ev_cb (rc_isi T.tab) (av_cons (ev_v 1) (av_cons ev_ty av_nil))))) (sv_drop (ev_call (fun _ _ => RpL.nil) av_nil av_nil)) sv_next)
      (sv_seq (sv_for (iv_tup (ev_v 1)) gv_name (sv_if (tv_or (tv_not (tv_B (ev_cb (rc_isi T.tab) (av_cons (ev_v 2) (av_cons ev_ty av_nil))))) (tv_or (tv_test (ev_op ro_ne (ev_cb rc_len (av_cons (ev_v 2) av_nil)) ev_int)) (tv_or (tv_not (tv_B (ev_call (fun _ _ => RpL.nil) (av_cons (ev_op ro_ix (ev_v 2) ev_int) av_nil) av_nil))) (tv_not (tv_B (ev_cb (rc_isi T.tab) (av_cons (ev_op ro_ix (ev_v 2) ev_int) (av_cons ev_ty av_nil)))))))) (sv_drop (ev_call (fun _ _ => RpL.nil) av_nil av_nil)) sv_next))
      (sv_seq (sv_fld T.ni ev_str (ev_v 0))
      (sv_fld T.ni (ev_v 1) (ev_v 0)))))⟩
theorem ok_Other___init__ {f : Addr} {fd : FuncData} (F : FunD Γ.K "__init__" "Other.__init__" (defArgs s_Other___init__) (defBody s_Other___init__) (defScope s_Other___init__) [] [] f fd) (T : Glb Γ mg) (D_no_finder : DefM P w Γ.K mg base "no_finder" s_no_finder 1 [] [] (FM Γ m_no_finder)) (D_is_name : DefM P w Γ.K mg base "is_name" s_is_name 2 ["thing"] [] (FM Γ m_is_name)) : FnOk P w Γ.K mg base (L2.CX P w) 3 f fd ["self", "old", "new"] (FM Γ m_Other___init__) := by
  refine okN F sc_Other___init__ (fun cdv A outer s H E hr => ?_)
  have hu := hr.units
  have nd := sc_Other___init__.nd
  have tk : Takes (cxOf (L2.CX P w) P w Γ.K mg base ["self", "old", "new"] "Other.__init__" (defScope s_Other___init__) f cdv A outer s H E) (fun cls d _ H => E cls d H) := takes_of rfl rfl rfl rfl
  exact ⟨_, (pss_cons (ps_if (PW.pt (pw_or (pt_not (pt_val (pe_dMP D_is_name 1 [] [0] (fun _ h => nomatch h) (fun _ _ _ _ _ _ _ us mv ws hk h1 h2 h3 => match us, mv, ws, h1, h2, h3 with | [_], [], [], _, _, _ => rfl) (hr.mono (by decide)) tk (by rfl) (pa_cons (pv 1) pa_nil)))) (pw_or1 (pt_not (pt_val (pe_dMP D_is_name 1 [] [0] (fun _ h => nomatch h) (fun _ _ _ _ _ _ _ us mv ws hk h1 h2 h3 => match us, mv, ws, h1, h2, h3 with | [_], [], [], _, _, _ => rfl) (hr.mono (by decide)) tk (by rfl) (pa_cons (pv 2) pa_nil))))))) (pss_one (ps_expr (pe_dMP0 D_no_finder [] [] (fun _ h => nomatch h) (fun _ _ _ _ _ _ _ us mv ws hk h1 h2 h3 => match us, mv, ws, h1, h2, h3 with | [], [], [], _, _, _ => rfl) (hr.mono (by decide)) tk (by rfl)))) pss_nil)
      (pss_cons (k_fldS (K := Γ.K) rfl (pv 0) pe_str)
      (pss_cons (k_fldS (K := Γ.K) rfl (pv 0) (pv 1))
      (pss_one (k_fldS (K := Γ.K) rfl (pv 0) (pv 2)))))), (sv_seq (sv_if (tv_or (tv_not (tv_B (ev_call (fun _ _ => RpL.nil) (av_cons (ev_v 1) av_nil) av_nil))) (tv_not (tv_B (ev_call (fun _ _ => RpL.nil) (av_cons (ev_v 2) av_nil) av_nil)))) (sv_drop (ev_call (fun _ _ => RpL.nil) av_nil av_nil)) sv_next)
      (sv_seq (sv_fld T.ni ev_str (ev_v 0))
      (sv_seq (sv_fld T.ni (ev_v 1) (ev_v 0))
      (sv_fld T.ni (ev_v 2) (ev_v 0)))))⟩
theorem ok_law_made {f : Addr} {fd : FuncData} (F : FunD Γ.K "_law_made" "_law_made" (defArgs s_law_made) (defBody s_law_made) (defScope s_law_made) [] [] f fd) (T : Glb Γ mg) (D_Barred___init__ : DefI P w Γ.K mg base (Γ.c 20) "Barred.__init__" s_Barred___init__ 3 ["self", "names"] [] (FM Γ m_Barred___init__)) (D_Built___init__ : DefI P w Γ.K mg base (Γ.c 18) "Built.__init__" s_Built___init__ 3 ["self", "bodies"] [] (FM Γ m_Built___init__)) (D_Other___init__ : DefI P w Γ.K mg base (Γ.c 19) "Other.__init__" s_Other___init__ 3 ["self", "old", "new"] [] (FM Γ m_Other___init__)) : FnOk P w Γ.K mg base (L2.CX P w) 5 f fd ["_law_which", "_law_told", "_law_turn"] (FM Γ m_law_made) := by
  refine okN F sc_law_made (fun cdv A outer s H E hr => ?_)
  have hu := hr.units
  have nd := sc_law_made.nd
  have tk : Takes (cxOf (L2.CX P w) P w Γ.K mg base ["_law_which", "_law_told", "_law_turn"] "_law_made" (defScope s_law_made) f cdv A outer s H E) (fun cls d _ H => E cls d H) := takes_of rfl rfl rfl rfl
  exact ⟨_, (pss_cons (ps_if (pt_cmpR (k_eq (K := Γ.K) rfl hu) (pv 0) pe_int (nomark _)) (pss_one (ps_ret (pe_ix (k_ix (K := Γ.K) rfl) (pe_lst (pa_cons (pe_mIP D_Built___init__ 1 [] [0, 1] (fun _ h => nomatch h) (fun _ _ _ _ _ _ _ us mv ws hk h1 h2 h3 => match us, mv, ws, h1, h2, h3 with | [_, _], [], [], _, _, _ => rfl) (hr.mono (by decide)) tk (by rfl) T.g_Built (pa_cons (pv 1) pa_nil)) (pa_cons (pe_mI0 D_Built___init__ ["bodies"] [] [0, 1] (fun _ h => nomatch h) (fun _ _ _ _ _ _ _ us mv ws hk h1 h2 h3 => match us, mv, ws, h1, h2, h3 with | [_], [], [_], _, _, _ => rfl) (hr.mono (by decide)) tk (by rfl) T.g_Built (pk_cons (pv 1) pk_nil)) pa_nil))) (pv 2) (fun _ _ => rfl)))) pss_nil)
      (pss_cons (ps_if (pt_cmpR (k_eq (K := Γ.K) rfl hu) (pv 0) pe_int (nomark _)) (pss_one (ps_ret (pe_ix (k_ix (K := Γ.K) rfl) (pe_lst (pa_cons (pe_mIP D_Other___init__ 2 [] [0, 1, 2] (fun _ h => nomatch h) (fun _ _ _ _ _ _ _ us mv ws hk h1 h2 h3 => match us, mv, ws, h1, h2, h3 with | [_, _, _], [], [], _, _, _ => rfl) (hr.mono (by decide)) tk (by rfl) T.g_Other (pa_cons (pe_ix (k_ix (K := Γ.K) rfl) (pv 1) pe_int (fun _ _ => rfl)) (pa_cons (pe_ix (k_ix (K := Γ.K) rfl) (pv 1) pe_int (fun _ _ => rfl)) pa_nil))) (pa_cons (pe_mI0 D_Other___init__ ["new", "old"] [] [0, 2, 1] (fun _ h => nomatch h) (fun _ _ _ _ _ _ _ us mv ws hk h1 h2 h3 => match us, mv, ws, h1, h2, h3 with | [_], [], [_, _], _, _, _ => rfl) (hr.mono (by decide)) tk (by rfl) T.g_Other (pk_cons (pe_ix (k_ix (K := Γ.K) rfl) (pv 1) pe_int (fun _ _ => rfl)) (pk_cons (pe_ix (k_ix (K := Γ.K) rfl) (pv 1) pe_int (fun _ _ => rfl)) pk_nil))) pa_nil))) (pv 2) (fun _ _ => rfl)))) pss_nil)
      (pss_one (ps_ret (pe_ix (k_ix (K := Γ.K) rfl) (pe_lst (pa_cons (pe_mIP D_Barred___init__ 1 [] [0, 1] (fun _ h => nomatch h) (fun _ _ _ _ _ _ _ us mv ws hk h1 h2 h3 => match us, mv, ws, h1, h2, h3 with | [_, _], [], [], _, _, _ => rfl) (hr.mono (by decide)) tk (by rfl) T.g_Barred (pa_cons (pv 1) pa_nil)) (pa_cons (pe_mI0 D_Barred___init__ ["names"] [] [0, 1] (fun _ h => nomatch h) (fun _ _ _ _ _ _ _ us mv ws hk h1 h2 h3 => match us, mv, ws, h1, h2, h3 with | [_], [], [_], _, _, _ => rfl) (hr.mono (by decide)) tk (by rfl) T.g_Barred (pk_cons (pv 1) pk_nil)) pa_nil))) (pv 2) (fun _ _ => rfl)))))), (sv_seq (sv_if (tv_test (ev_op ro_eq (ev_v 0) ev_int)) (sv_ret (ev_op ro_ix (ev_lst (av_cons (ev_make (fun _ _ => RpL.nil) (av_cons (ev_v 1) av_nil) av_nil) (av_cons (ev_make (fun _ _ => RpL.nil) av_nil (av_cons (ev_v 1) av_nil)) av_nil))) (ev_v 2))) sv_next)
      (sv_seq (sv_if (tv_test (ev_op ro_eq (ev_v 0) ev_int)) (sv_ret (ev_op ro_ix (ev_lst (av_cons (ev_make (fun _ _ => RpL.nil) (av_cons (ev_op ro_ix (ev_v 1) ev_int) (av_cons (ev_op ro_ix (ev_v 1) ev_int) av_nil)) av_nil) (av_cons (ev_make (fun _ _ => RpL.nil) av_nil (av_cons (ev_op ro_ix (ev_v 1) ev_int) (av_cons (ev_op ro_ix (ev_v 1) ev_int) av_nil))) av_nil))) (ev_v 2))) sv_next)
      (sv_ret (ev_op ro_ix (ev_lst (av_cons (ev_make (fun _ _ => RpL.nil) (av_cons (ev_v 1) av_nil) av_nil) (av_cons (ev_make (fun _ _ => RpL.nil) av_nil (av_cons (ev_v 1) av_nil)) av_nil))) (ev_v 2)))))⟩
theorem ok_law_due {f : Addr} {fd : FuncData} (F : FunD Γ.K "_law_due" "_law_due" (defArgs s_law_due) (defBody s_law_due) (defScope s_law_due) [] [] f fd) (T : Glb Γ mg)  : FnOk P w Γ.K mg base (L2.CX P w) 1 f fd ["_law_which", "_law_told", "_law_name_tolds"] (FM Γ m_law_due) := by
  refine okN F sc_law_due (fun cdv A outer s H E hr => ?_)
  have hu := hr.units
  have nd := sc_law_due.nd
  have tk : Takes (cxOf (L2.CX P w) P w Γ.K mg base ["_law_which", "_law_told", "_law_name_tolds", "_law_found", "_law_one", "_law_text"] "_law_due" (defScope s_law_due) f cdv A outer s H E) (fun cls d _ H => E cls d H) := takes_of rfl rfl rfl rfl
  exact ⟨_, (pss_cons (ps_if (pt_cmpR (k_eq (K := Γ.K) rfl hu) (pv 0) pe_int (nomark _)) (pss_cons (ps_setLc (i := 3) (own := [("_law_one", 4), ("_law_text", 5)]) rfl nd rfl rfl (sw_true rfl rfl rfl (by decide +kernel)) (k_pi_tup (K := Γ.K) rfl (pv 1)) (blkOk_by (N := ["_law_which", "_law_told", "_law_name_tolds", "_law_found", "_law_one", "_law_text"]) (sc := defScope s_law_due) (own := [("_law_one", 4), ("_law_text", 5)]) (by decide +kernel)) (fun _ _ _ _ _ => (k_pg_tup (K := Γ.K) rfl rfl (pgs_cons (pg_name (i := 4) nd rfl (Or.inl rfl)) (pgs_cons (pg_name (i := 5) nd rfl (Or.inl rfl)) pgs_nil)))) (fun _ _ _ _ _ => (pts_one (pt_cmpR (k_eq (K := Γ.K) rfl hu) (pv 4) (pv 2) (nomark _)))) (fun _ _ _ _ _ => by exact (pv 5)))
      (pss_one (ps_ret (pe_ix (k_ix (K := Γ.K) rfl) (pe_lst (pa_cons pe_non (pa_cons (pe_tup (pa_cons pe_str (pa_cons (pe_ix (k_ix (K := Γ.K) rfl) (pe_op uop_add (pv 3) (pe_lst (pa_cons pe_str pa_nil))) pe_int (fun _ _ => rfl)) (pa_cons pe_non pa_nil)))) pa_nil))) (pe_callTy ucall_int (by rfl) T.z_int (by decide +kernel) (pa_cons (pe_cmpR (k_ne (K := Γ.K) rfl hu) (pv 3) (pe_lst pa_nil) (nomark _)) pa_nil)) (fun _ _ => rfl))))) pss_nil)
      (pss_cons (ps_if (pt_cmpR (k_eq (K := Γ.K) rfl hu) (pv 0) pe_int (nomark _)) (pss_cons (ps_if (pt_cmpR (k_eq (K := Γ.K) rfl hu) (pv 2) (pe_ix (k_ix (K := Γ.K) rfl) (pv 1) pe_int (fun _ _ => rfl)) (nomark _)) (pss_one (ps_ret (pe_tup (pa_cons pe_str (pa_cons (pe_ix (k_ix (K := Γ.K) rfl) (pv 1) pe_int (fun _ _ => rfl)) (pa_cons pe_non pa_nil)))))) pss_nil)
      (pss_cons (ps_if (pt_cmpR (k_eq (K := Γ.K) rfl hu) (pe_slice (k_sl (K := Γ.K) rfl) (pv 2) po_none (po_some (pe_op uop_add (pe_callB (k_len (K := Γ.K) rfl) (by rfl) T.z_len (by decide +kernel) (pa_cons (pe_ix (k_ix (K := Γ.K) rfl) (pv 1) pe_int (fun _ _ => rfl)) pa_nil)) pe_int))) (pe_op uop_add (pe_ix (k_ix (K := Γ.K) rfl) (pv 1) pe_int (fun _ _ => rfl)) pe_str) (nomark _)) (pss_one (ps_ret (pe_tup (pa_cons pe_str (pa_cons (pe_op uop_add (pe_ix (k_ix (K := Γ.K) rfl) (pv 1) pe_int (fun _ _ => rfl)) (pe_slice (k_sl (K := Γ.K) rfl) (pv 2) (po_some (pe_callB (k_len (K := Γ.K) rfl) (by rfl) T.z_len (by decide +kernel) (pa_cons (pe_ix (k_ix (K := Γ.K) rfl) (pv 1) pe_int (fun _ _ => rfl)) pa_nil))) po_none)) (pa_cons pe_non pa_nil)))))) pss_nil)
      (pss_one (ps_ret pe_non)))) pss_nil)
      (pss_one (ps_ret (pe_ix (k_ix (K := Γ.K) rfl) (pe_lst (pa_cons pe_non (pa_cons (pe_tup (pa_cons pe_str (pa_cons pe_non (pa_cons pe_non pa_nil)))) pa_nil))) (pe_callTy ucall_int (by rfl) T.z_int (by decide +kernel) (pa_cons (pe_cmpR (k_in (K := Γ.K) rfl) (pv 2) (pv 1) (by rfl)) pa_nil)) (fun _ _ => rfl)))))), (sv_seq (sv_if (tv_test (ev_op ro_eq (ev_v 0) ev_int)) (sv_seq (sv_asg (ev_lc (iv_tup (ev_v 1)) (gv_tup (gvs_cons gv_name (gvs_cons gv_name gvs_nil))) (gl_tup (gls_name (by decide) (gls_name (by decide) gls_nil))) (tv_test (ev_op ro_eq (ev_v 4) (ev_v 2))) (ev_v 5)) gv_name)
      (sv_ret (ev_op ro_ix (ev_lst (av_cons ev_non (av_cons (ev_tup (av_cons ev_str (av_cons (ev_op ro_ix (ev_op ro_add (ev_v 3) (ev_lst (av_cons ev_str av_nil))) ev_int) (av_cons ev_non av_nil)))) av_nil))) (ev_cb rc_int (av_cons (ev_op ro_ne (ev_v 3) (ev_lst av_nil)) av_nil))))) sv_next)
      (sv_seq (sv_if (tv_test (ev_op ro_eq (ev_v 0) ev_int)) (sv_seq (sv_if (tv_test (ev_op ro_eq (ev_v 2) (ev_op ro_ix (ev_v 1) ev_int))) (sv_ret (ev_tup (av_cons ev_str (av_cons (ev_op ro_ix (ev_v 1) ev_int) (av_cons ev_non av_nil))))) sv_next)
      (sv_seq (sv_if (tv_test (ev_op ro_eq (ev_sl rs_sl (ev_v 2) ov_none (ov_some (ev_op ro_add (ev_cb rc_len (av_cons (ev_op ro_ix (ev_v 1) ev_int) av_nil)) ev_int))) (ev_op ro_add (ev_op ro_ix (ev_v 1) ev_int) ev_str))) (sv_ret (ev_tup (av_cons ev_str (av_cons (ev_op ro_add (ev_op ro_ix (ev_v 1) ev_int) (ev_sl rs_sl (ev_v 2) (ov_some (ev_cb rc_len (av_cons (ev_op ro_ix (ev_v 1) ev_int) av_nil))) ov_none)) (av_cons ev_non av_nil))))) sv_next)
      (sv_ret ev_non))) sv_next)
      (sv_ret (ev_op ro_ix (ev_lst (av_cons ev_non (av_cons (ev_tup (av_cons ev_str (av_cons ev_non (av_cons ev_non av_nil)))) av_nil))) (ev_cb rc_int (av_cons (ev_op ro_in (ev_v 2) (ev_v 1)) av_nil))))))⟩
theorem ok_Built_find {f : Addr} {fd : FuncData} (F : FunD Γ.K "find" "Built.find" (defArgs s_Built_find) (defBody s_Built_find) (defScope s_Built_find) [] [] f fd) (T : Glb Γ mg)  : FnOk P w Γ.K mg base (L2.CX P w) 1 f fd ["self", "name", "places", "hall"] (FM Γ m_Built_find) := by
  refine okN F sc_Built_find (fun cdv A outer s H E hr => ?_)
  have hu := hr.units
  have nd := sc_Built_find.nd
  have tk : Takes (cxOf (L2.CX P w) P w Γ.K mg base ["self", "name", "places", "hall", "one", "text"] "Built.find" (defScope s_Built_find) f cdv A outer s H E) (fun cls d _ H => E cls d H) := takes_of rfl rfl rfl rfl
  exact ⟨_, (pss_cons (ps_for (passes_of rfl) rfl (k_pi_tup (K := Γ.K) rfl (k_fldU (K := Γ.K) rfl (pv 0))) (k_pg_tup (K := Γ.K) rfl rfl (pgs_cons (pg_name (i := 4) nd rfl (Or.inl rfl)) (pgs_cons (pg_name (i := 5) nd rfl (Or.inl rfl)) pgs_nil))) (pss_one (ps_if (pt_cmpR (k_eq (K := Γ.K) rfl hu) (pv 4) (pv 1) (nomark _)) (pss_one (ps_ret (pe_tup (pa_cons pe_str (pa_cons (pv 5) (pa_cons pe_non pa_nil)))))) pss_nil)))
      (pss_one (ps_ret pe_non))), (sv_seq (sv_for (iv_tup (ev_fldU T.nx T.ni (ev_v 0))) (gv_tup (gvs_cons gv_name (gvs_cons gv_name gvs_nil))) (sv_if (tv_test (ev_op ro_eq (ev_v 4) (ev_v 1))) (sv_ret (ev_tup (av_cons ev_str (av_cons (ev_v 5) (av_cons ev_non av_nil))))) sv_next))
      (sv_ret ev_non))⟩
theorem ok_Other_find {f : Addr} {fd : FuncData} (F : FunD Γ.K "find" "Other.find" (defArgs s_Other_find) (defBody s_Other_find) (defScope s_Other_find) [] [] f fd) (T : Glb Γ mg)  : FnOk P w Γ.K mg base (L2.CX P w) 1 f fd ["self", "name", "places", "hall"] (FM Γ m_Other_find) := by
  refine okN F sc_Other_find (fun cdv A outer s H E hr => ?_)
  have hu := hr.units
  have nd := sc_Other_find.nd
  have tk : Takes (cxOf (L2.CX P w) P w Γ.K mg base ["self", "name", "places", "hall"] "Other.find" (defScope s_Other_find) f cdv A outer s H E) (fun cls d _ H => E cls d H) := takes_of rfl rfl rfl rfl
  exact ⟨_, (pss_cons (ps_if (PW.pt (pw_and (pt_cmpR (k_ne (K := Γ.K) rfl hu) (pv 1) (k_fldU (K := Γ.K) rfl (pv 0)) (nomark _)) (pw_and1 (pt_not (pt_val (k_bm (K := Γ.K) rfl PySem.F.plainAttrs_str PySem.F.slot_str_startswith PySem.F.type_str_startswith umt_startswith (pv 1) (pa_cons (pe_op uop_add (k_fldU (K := Γ.K) rfl (pv 0)) pe_str) pa_nil))))))) (pss_one (ps_ret pe_non)) pss_nil)
      (pss_one (ps_ret (pe_tup (pa_cons pe_str (pa_cons (pe_op uop_add (k_fldU (K := Γ.K) rfl (pv 0)) (pe_slice (k_sl (K := Γ.K) rfl) (pv 1) (po_some (pe_callB (k_len (K := Γ.K) rfl) (by rfl) T.z_len (by decide +kernel) (pa_cons (k_fldU (K := Γ.K) rfl (pv 0)) pa_nil))) po_none)) (pa_cons pe_non pa_nil))))))), (sv_seq (sv_if (tv_and (tv_test (ev_op ro_ne (ev_v 1) (ev_fldU T.nx T.ni (ev_v 0)))) (tv_not (tv_B (ev_bm rm_startswith (ev_v 1) (av_cons (ev_op ro_add (ev_fldU T.nx T.ni (ev_v 0)) ev_str) av_nil))))) (sv_ret ev_non) sv_next)
      (sv_ret (ev_tup (av_cons ev_str (av_cons (ev_op ro_add (ev_fldU T.nx T.ni (ev_v 0)) (ev_sl rs_sl (ev_v 1) (ov_some (ev_cb rc_len (av_cons (ev_fldU T.nx T.ni (ev_v 0)) av_nil))) ov_none)) (av_cons ev_non av_nil))))))⟩
theorem ok_Barred_find {f : Addr} {fd : FuncData} (F : FunD Γ.K "find" "Barred.find" (defArgs s_Barred_find) (defBody s_Barred_find) (defScope s_Barred_find) [] [] f fd) (T : Glb Γ mg)  : FnOk P w Γ.K mg base (L2.CX P w) 1 f fd ["self", "name", "places", "hall"] (FM Γ m_Barred_find) := by
  refine okN F sc_Barred_find (fun cdv A outer s H E hr => ?_)
  have hu := hr.units
  have nd := sc_Barred_find.nd
  have tk : Takes (cxOf (L2.CX P w) P w Γ.K mg base ["self", "name", "places", "hall"] "Barred.find" (defScope s_Barred_find) f cdv A outer s H E) (fun cls d _ H => E cls d H) := takes_of rfl rfl rfl rfl
  exact ⟨_, (pss_cons (ps_if (pt_cmpR (k_in (K := Γ.K) rfl) (pv 1) (k_fldU (K := Γ.K) rfl (pv 0)) (by rfl)) (pss_one (ps_ret (pe_tup (pa_cons pe_str (pa_cons pe_non (pa_cons pe_non pa_nil)))))) pss_nil)
      (pss_one (ps_ret pe_non))), (sv_seq (sv_if (tv_test (ev_op ro_in (ev_v 1) (ev_fldU T.nx T.ni (ev_v 0)))) (sv_ret (ev_tup (av_cons ev_str (av_cons ev_non (av_cons ev_non av_nil))))) sv_next)
      (sv_ret ev_non))⟩
theorem ok_law_good {f : Addr} {fd : FuncData} (F : FunD Γ.K "_law_good" "_law_good" (defArgs s_law_good) (defBody s_law_good) (defScope s_law_good) [] [] f fd) (T : Glb Γ mg) (D_law_made : DefM P w Γ.K mg base "_law_made" s_law_made 5 ["_law_which", "_law_told", "_law_turn"] [] (FM Γ m_law_made)) (D_law_due : DefM P w Γ.K mg base "_law_due" s_law_due 1 ["_law_which", "_law_told", "_law_name_tolds"] [] (FM Γ m_law_due)) (D_Built_find : DefN P w Γ.K mg base (Γ.c 18) "find" "Built.find" s_Built_find 1 ["self", "name", "places", "hall"] [] (FM Γ m_Built_find)) (D_Other_find : DefN P w Γ.K mg base (Γ.c 19) "find" "Other.find" s_Other_find 1 ["self", "name", "places", "hall"] [] (FM Γ m_Other_find)) (D_Barred_find : DefN P w Γ.K mg base (Γ.c 20) "find" "Barred.find" s_Barred_find 1 ["self", "name", "places", "hall"] [] (FM Γ m_Barred_find)) : FnOk P w Γ.K mg base (L2.CX P w) 6 f fd ["_law_which", "_law_told", "_law_names_told", "_law_hall_told"] (FM Γ m_law_good) := by
  refine okN F sc_law_good (fun cdv A outer s H E hr => ?_)
  have hu := hr.units
  have nd := sc_law_good.nd
  have tk : Takes (cxOf (L2.CX P w) P w Γ.K mg base ["_law_which", "_law_told", "_law_names_told", "_law_hall_told", "_law_turn", "_law_finder", "_law_name_told", "_law_due_here", "_law_places_told"] "_law_good" (defScope s_law_good) f cdv A outer s H E) (fun cls d _ H => E cls d H) := takes_of rfl rfl rfl rfl
  exact ⟨_, (pss_cons (ps_for (passes_of rfl) rfl (pi_range1 (by rfl) T.z_range (pa_cons pe_int pa_nil)) (pg_name (i := 4) nd rfl (Or.inl rfl)) (pss_cons (ps_set (i := 5) nd rfl (Or.inl rfl) (pe_dMP D_law_made 3 [] [0, 1, 2] (fun _ h => nomatch h) (fun _ _ _ _ _ _ _ us mv ws hk h1 h2 h3 => match us, mv, ws, h1, h2, h3 with | [_, _, _], [], [], _, _, _ => rfl) (hr.mono (by decide)) tk (by rfl) (pa_cons (pv 0) (pa_cons (pv 1) (pa_cons (pv 4) pa_nil)))))
      (pss_cons (ps_if (pt_cmpR (k_ne (K := Γ.K) rfl hu) (k_fldU (K := Γ.K) rfl (pv 5)) (pe_ix (k_ix (K := Γ.K) rfl) (pe_lst (pa_cons pe_str (pa_cons pe_str (pa_cons pe_str pa_nil)))) (pv 0) (fun _ _ => rfl)) (nomark _)) (pss_one (ps_ret pe_bl)) pss_nil)
      (pss_one (ps_for (passes_of rfl) rfl (k_pi_list (K := Γ.K) rfl (pv 2)) (pg_name (i := 6) nd rfl (Or.inl rfl)) (pss_cons (ps_set (i := 7) nd rfl (Or.inl rfl) (pe_dMP D_law_due 3 [] [0, 1, 2] (fun _ h => nomatch h) (fun _ _ _ _ _ _ _ us mv ws hk h1 h2 h3 => match us, mv, ws, h1, h2, h3 with | [_, _, _], [], [], _, _, _ => rfl) (hr.mono (by decide)) tk (by rfl) (pa_cons (pv 0) (pa_cons (pv 1) (pa_cons (pv 6) pa_nil)))))
      (pss_one (ps_for (passes_of rfl) rfl (k_pi_list (K := Γ.K) rfl (pe_lst (pa_cons (pe_tup pa_nil) (pa_cons (pe_tup (pa_cons pe_str pa_nil)) pa_nil)))) (pg_name (i := 8) nd rfl (Or.inl rfl)) (pss_one (ps_if (pt_cmpR (k_ne (K := Γ.K) rfl hu) (pe_mtMP (K := Γ.K) rfl (pv 5) (tblC_cons (k := 1) (methB_of D_Built_find 3 [] [] [0, 1, 2, 3] (fun _ h => nomatch h) (fun _ _ _ _ _ _ _ us mv ws hk h1 h2 h3 => match us, mv, ws, h1, h2, h3 with | [_, _, _, _], [], [], _, _, _ => rfl)) (by decide) (tblC_cons (k := 1) (methB_of D_Other_find 3 [] [] [0, 1, 2, 3] (fun _ h => nomatch h) (fun _ _ _ _ _ _ _ us mv ws hk h1 h2 h3 => match us, mv, ws, h1, h2, h3 with | [_, _, _, _], [], [], _, _, _ => rfl)) (by decide) (tblC_cons (k := 1) (methB_of D_Barred_find 3 [] [] [0, 1, 2, 3] (fun _ h => nomatch h) (fun _ _ _ _ _ _ _ us mv ws hk h1 h2 h3 => match us, mv, ws, h1, h2, h3 with | [_, _, _, _], [], [], _, _, _ => rfl)) (by decide) tblC_nil))) (hr.mono (by decide)) (fun σ => passAt tk σ) (pa_cons (pv 6) (pa_cons (pv 8) (pa_cons (pv 3) pa_nil)))) (pv 7) (nomark _)) (pss_one (ps_ret pe_bl)) pss_nil))))))))))
      (pss_one (ps_ret pe_bl))), (sv_seq (sv_for (iv_rng1 (av_cons ev_int av_nil)) gv_name (sv_seq (sv_asg (ev_call (fun _ _ => RpL.nil) (av_cons (ev_v 0) (av_cons (ev_v 1) (av_cons (ev_v 4) av_nil))) av_nil) gv_name)
      (sv_seq (sv_if (tv_test (ev_op ro_ne (ev_fldU T.nx T.ni (ev_v 5)) (ev_op ro_ix (ev_lst (av_cons ev_str (av_cons ev_str (av_cons ev_str av_nil)))) (ev_v 0)))) (sv_ret ev_bl) sv_next)
      (sv_for (iv_list (ev_v 2)) gv_name (sv_seq (sv_asg (ev_call (fun _ _ => RpL.nil) (av_cons (ev_v 0) (av_cons (ev_v 1) (av_cons (ev_v 6) av_nil))) av_nil) gv_name)
      (sv_for (iv_list (ev_lst (av_cons (ev_tup av_nil) (av_cons (ev_tup (av_cons ev_str av_nil)) av_nil)))) gv_name (sv_if (tv_test (ev_op ro_ne (ev_meth (fun _ _ => RpL.nil) (ev_v 5) (av_cons (ev_v 6) (av_cons (ev_v 8) (av_cons (ev_v 3) av_nil))) av_nil) (ev_v 7))) (sv_ret ev_bl) sv_next)))))))
      (sv_ret ev_bl))⟩
theorem ok_Hall_told {f : Addr} {fd : FuncData} (F : FunD Γ.K "told" "Hall.told" (defArgs s_Hall_told) (defBody s_Hall_told) (defScope s_Hall_told) [] [] f fd) (T : Glb Γ mg)  : FnOk P w Γ.K mg base (L2.CX P w) 1 f fd ["self"] (FM Γ m_Hall_told) := by
  refine okN F sc_Hall_told (fun cdv A outer s H E hr => ?_)
  have hu := hr.units
  have nd := sc_Hall_told.nd
  have tk : Takes (cxOf (L2.CX P w) P w Γ.K mg base ["self", "name", "number"] "Hall.told" (defScope s_Hall_told) f cdv A outer s H E) (fun cls d _ H => E cls d H) := takes_of rfl rfl rfl rfl
  exact ⟨_, (pss_one (ps_ret (pe_lc (own := [("name", 1), ("number", 2)]) rfl nd (k_pi_list (K := Γ.K) rfl (pe_sortI0 (K := Γ.K) rfl rfl (by rfl) T.z_sorted (k_fldU (K := Γ.K) rfl (pv 0)))) (blkOk_by (N := ["self", "name", "number"]) (sc := defScope s_Hall_told) (own := [("name", 1), ("number", 2)]) (by decide +kernel)) (fun _ _ _ _ _ => (k_pg_tup (K := Γ.K) rfl rfl (pgs_cons (pg_name (i := 1) nd rfl (Or.inl rfl)) (pgs_cons (pg_name (i := 2) nd rfl (Or.inl rfl)) pgs_nil)))) (fun _ _ _ _ _ => pts_nil) (fun _ _ _ _ _ => by exact (pe_op uop_add (pe_op uop_add (pv 1) pe_str) (k_fldU (K := Γ.K) rfl (pe_dget (hu_of hr) (k_fldU (K := Γ.K) rfl (pv 0)) (pv 2) (fun _ _ => rfl)))))))), (sv_ret (ev_lc (iv_list (ev_sortI0 (ev_fldU T.nx T.ni (ev_v 0)))) (gv_tup (gvs_cons gv_name (gvs_cons gv_name gvs_nil))) (gl_tup (gls_name (by decide) (gls_name (by decide) gls_nil))) tv_yes (ev_op ro_add (ev_op ro_add (ev_v 1) ev_str) (ev_fldU T.nx T.ni (ev_dget (ev_fldU T.nx T.ni (ev_v 0)) (ev_v 2))))))⟩
theorem ok_law_part_drawn {f : Addr} {fd : FuncData} (F : FunD Γ.K "_law_part_drawn" "_law_part_drawn" (defArgs s_law_part_drawn) (defBody s_law_part_drawn) (defScope s_law_part_drawn) [] [] f fd) (T : Glb Γ mg) (D_law_take : DefM P w Γ.K mg base "_law_take" s_law_take 1 ["_law_pile", "_law_size"] [] (FM Γ m_law_take)) : FnOk P w Γ.K mg base (L2.CX P w) 2 f fd ["_law_pile"] (FM Γ m_law_part_drawn) := by
  refine okN F sc_law_part_drawn (fun cdv A outer s H E hr => ?_)
  have hu := hr.units
  have nd := sc_law_part_drawn.nd
  have tk : Takes (cxOf (L2.CX P w) P w Γ.K mg base ["_law_pile", "_law_way", "_law_many", "_law_k"] "_law_part_drawn" (defScope s_law_part_drawn) f cdv A outer s H E) (fun cls d _ H => E cls d H) := takes_of rfl rfl rfl rfl
  exact ⟨_, (pss_cons (ps_set (i := 1) nd rfl (Or.inl rfl) (pe_dMP D_law_take 2 [] [0, 1] (fun _ h => nomatch h) (fun _ _ _ _ _ _ _ us mv ws hk h1 h2 h3 => match us, mv, ws, h1, h2, h3 with | [_, _], [], [], _, _, _ => rfl) (hr.mono (by decide)) tk (by rfl) (pa_cons (pv 0) (pa_cons pe_int pa_nil))))
      (pss_cons (ps_if (pt_cmpR op_lt (pv 1) pe_int (nomark _)) (pss_one (ps_ret (pe_ix (k_ix (K := Γ.K) rfl) (pe_lst (pa_cons pe_str (pa_cons pe_str (pa_cons pe_str pa_nil)))) (pv 1) (fun _ _ => rfl)))) pss_nil)
      (pss_cons (ps_set (i := 2) nd rfl (Or.inl rfl) (pe_op uop_add pe_int (pe_dMP D_law_take 2 [] [0, 1] (fun _ h => nomatch h) (fun _ _ _ _ _ _ _ us mv ws hk h1 h2 h3 => match us, mv, ws, h1, h2, h3 with | [_, _], [], [], _, _, _ => rfl) (hr.mono (by decide)) tk (by rfl) (pa_cons (pv 0) (pa_cons pe_int pa_nil)))))
      (pss_one (ps_ret (k_bm (K := Γ.K) rfl PySem.F.plainAttrs_str PySem.F.slot_str_join PySem.F.type_str_join (k_join (K := Γ.K) rfl) pe_str (pa_cons (pe_lc (own := [("_law_k", 3)]) (g := gName 3) rfl nd (pi_range1 (by rfl) T.z_range (pa_cons (pv 2) pa_nil)) (blkOk_by (N := ["_law_pile", "_law_way", "_law_many", "_law_k"]) (sc := defScope s_law_part_drawn) (own := [("_law_k", 3)]) (by decide +kernel)) (fun _ _ _ _ _ => (pg_name (i := 3) nd rfl (Or.inl rfl))) (fun _ _ _ _ _ => pts_nil) (fun _ _ _ _ _ => by exact (pe_ix (k_ix (K := Γ.K) rfl) pe_str (pe_dMP D_law_take 2 [] [0, 1] (fun _ h => nomatch h) (fun _ _ _ _ _ _ _ us mv ws hk h1 h2 h3 => match us, mv, ws, h1, h2, h3 with | [_, _], [], [], _, _, _ => rfl) (hr.mono (by decide)) takes0 (by rfl) (pa_cons (pv 0) (pa_cons pe_int pa_nil))) (fun _ _ => rfl)))) pa_nil))))))), (sv_seq (sv_asg (ev_call (fun _ _ => RpL.nil) (av_cons (ev_v 0) (av_cons ev_int av_nil)) av_nil) gv_name)
      (sv_seq (sv_if (tv_test (ev_op ro_lt (ev_v 1) ev_int)) (sv_ret (ev_op ro_ix (ev_lst (av_cons ev_str (av_cons ev_str (av_cons ev_str av_nil)))) (ev_v 1))) sv_next)
      (sv_seq (sv_asg (ev_op ro_add ev_int (ev_call (fun _ _ => RpL.nil) (av_cons (ev_v 0) (av_cons ev_int av_nil)) av_nil)) gv_name)
      (sv_ret (ev_bm rm_join ev_str (av_cons (ev_lc (iv_rng1 (av_cons (ev_v 2) av_nil)) gv_name (gl_name (by decide)) tv_yes (ev_op ro_ix ev_str (ev_call (fun _ _ => RpL.nil) (av_cons (ev_v 0) (av_cons ev_int av_nil)) av_nil))) av_nil))))))⟩
theorem ok_law_name_drawn {f : Addr} {fd : FuncData} (F : FunD Γ.K "_law_name_drawn" "_law_name_drawn" (defArgs s_law_name_drawn) (defBody s_law_name_drawn) (defScope s_law_name_drawn) [] [] f fd) (T : Glb Γ mg) (D_law_part_drawn : DefM P w Γ.K mg base "_law_part_drawn" s_law_part_drawn 2 ["_law_pile"] [] (FM Γ m_law_part_drawn)) (D_law_take : DefM P w Γ.K mg base "_law_take" s_law_take 1 ["_law_pile", "_law_size"] [] (FM Γ m_law_take)) : FnOk P w Γ.K mg base (L2.CX P w) 3 f fd ["_law_pile", "_law_most"] (FM Γ m_law_name_drawn) := by
  refine okN F sc_law_name_drawn (fun cdv A outer s H E hr => ?_)
  have hu := hr.units
  have nd := sc_law_name_drawn.nd
  have tk : Takes (cxOf (L2.CX P w) P w Γ.K mg base ["_law_pile", "_law_most", "_law_k"] "_law_name_drawn" (defScope s_law_name_drawn) f cdv A outer s H E) (fun cls d _ H => E cls d H) := takes_of rfl rfl rfl rfl
  exact ⟨_, (pss_one (ps_ret (k_bm (K := Γ.K) rfl PySem.F.plainAttrs_str PySem.F.slot_str_join PySem.F.type_str_join (k_join (K := Γ.K) rfl) pe_str (pa_cons (pe_lc (own := [("_law_k", 2)]) (g := gName 2) rfl nd (pi_range1 (by rfl) T.z_range (pa_cons (pe_op uop_add pe_int (pe_dMP D_law_take 2 [] [0, 1] (fun _ h => nomatch h) (fun _ _ _ _ _ _ _ us mv ws hk h1 h2 h3 => match us, mv, ws, h1, h2, h3 with | [_, _], [], [], _, _, _ => rfl) (hr.mono (by decide)) tk (by rfl) (pa_cons (pv 0) (pa_cons (pv 1) pa_nil)))) pa_nil)) (blkOk_by (N := ["_law_pile", "_law_most", "_law_k"]) (sc := defScope s_law_name_drawn) (own := [("_law_k", 2)]) (by decide +kernel)) (fun _ _ _ _ _ => (pg_name (i := 2) nd rfl (Or.inl rfl))) (fun _ _ _ _ _ => pts_nil) (fun _ _ _ _ _ => by exact (pe_dMP D_law_part_drawn 1 [] [0] (fun _ h => nomatch h) (fun _ _ _ _ _ _ _ us mv ws hk h1 h2 h3 => match us, mv, ws, h1, h2, h3 with | [_], [], [], _, _, _ => rfl) (hr.mono (by decide)) takes0 (by rfl) (pa_cons (pv 0) pa_nil)))) pa_nil)))), (sv_ret (ev_bm rm_join ev_str (av_cons (ev_lc (iv_rng1 (av_cons (ev_op ro_add ev_int (ev_call (fun _ _ => RpL.nil) (av_cons (ev_v 0) (av_cons (ev_v 1) av_nil)) av_nil)) av_nil)) gv_name (gl_name (by decide)) tv_yes (ev_call (fun _ _ => RpL.nil) (av_cons (ev_v 0) av_nil) av_nil)) av_nil)))⟩
theorem ok_law_text_drawn {f : Addr} {fd : FuncData} (F : FunD Γ.K "_law_text_drawn" "_law_text_drawn" (defArgs s_law_text_drawn) (defBody s_law_text_drawn) (defScope s_law_text_drawn) [] [] f fd) (T : Glb Γ mg) (D_law_take : DefM P w Γ.K mg base "_law_take" s_law_take 1 ["_law_pile", "_law_size"] [] (FM Γ m_law_take)) : FnOk P w Γ.K mg base (L2.CX P w) 2 f fd ["_law_pile"] (FM Γ m_law_text_drawn) := by
  refine okN F sc_law_text_drawn (fun cdv A outer s H E hr => ?_)
  have hu := hr.units
  have nd := sc_law_text_drawn.nd
  have tk : Takes (cxOf (L2.CX P w) P w Γ.K mg base ["_law_pile", "_law_some"] "_law_text_drawn" (defScope s_law_text_drawn) f cdv A outer s H E) (fun cls d _ H => E cls d H) := takes_of rfl rfl rfl rfl
  exact ⟨_, (pss_cons (ps_set (i := 1) nd rfl (Or.inl rfl) (pe_lst (pa_cons pe_str (pa_cons pe_str (pa_cons pe_str (pa_cons pe_str (pa_cons pe_str (pa_cons pe_str (pa_cons pe_str (pa_cons pe_str pa_nil))))))))))
      (pss_cons (ps_set (i := 1) nd rfl (Or.inl rfl) (pe_op uop_add (pv 1) (pe_lst (pa_cons pe_str (pa_cons pe_str (pa_cons pe_str pa_nil))))))
      (pss_one (ps_ret (pe_ix (k_ix (K := Γ.K) rfl) (pv 1) (pe_dMP D_law_take 2 [] [0, 1] (fun _ h => nomatch h) (fun _ _ _ _ _ _ _ us mv ws hk h1 h2 h3 => match us, mv, ws, h1, h2, h3 with | [_, _], [], [], _, _, _ => rfl) (hr.mono (by decide)) tk (by rfl) (pa_cons (pv 0) (pa_cons pe_int pa_nil))) (fun _ _ => rfl)))))), (sv_seq (sv_asg (ev_lst (av_cons ev_str (av_cons ev_str (av_cons ev_str (av_cons ev_str (av_cons ev_str (av_cons ev_str (av_cons ev_str (av_cons ev_str av_nil))))))))) gv_name)
      (sv_seq (sv_asg (ev_op ro_add (ev_v 1) (ev_lst (av_cons ev_str (av_cons ev_str (av_cons ev_str av_nil))))) gv_name)
      (sv_ret (ev_op ro_ix (ev_v 1) (ev_call (fun _ _ => RpL.nil) (av_cons (ev_v 0) (av_cons ev_int av_nil)) av_nil)))))⟩
theorem ok_law {f : Addr} {fd : FuncData} (F : FunD Γ.K "law" "law" (defArgs s_law) (defBody s_law) (defScope s_law) [] [] f fd) (T : Glb Γ mg) (D_Hall___init__ : DefI P w Γ.K mg base (Γ.c 21) "Hall.__init__" s_Hall___init__ 5 ["self", "path", "check"] [("path", .ref (Γ.c 53)), ("check", .str "stamp")] (FM Γ m_Hall___init__)) (D_law_cell : DefM P w Γ.K mg base "_law_cell" s_law_cell 2 ["_law_script", "_law_k"] [] (FM Γ m_law_cell)) (D_law_take : DefM P w Γ.K mg base "_law_take" s_law_take 1 ["_law_pile", "_law_size"] [] (FM Γ m_law_take)) (D_law_good : DefM P w Γ.K mg base "_law_good" s_law_good 6 ["_law_which", "_law_told", "_law_names_told", "_law_hall_told"] [] (FM Γ m_law_good)) (D_Hall_told : DefN P w Γ.K mg base (Γ.c 21) "told" "Hall.told" s_Hall_told 1 ["self"] [] (FM Γ m_Hall_told)) (D_law_name_drawn : DefM P w Γ.K mg base "_law_name_drawn" s_law_name_drawn 3 ["_law_pile", "_law_most"] [] (FM Γ m_law_name_drawn)) (D_law_text_drawn : DefM P w Γ.K mg base "_law_text_drawn" s_law_text_drawn 2 ["_law_pile"] [] (FM Γ m_law_text_drawn)) : FnOk P w Γ.K mg base (L2.CX P w) 7 f fd ["_law_script"] (FM Γ m_law) := by
  refine okN F sc_law (fun cdv A outer s H E hr => ?_)
  have hu := hr.units
  have nd := sc_law.nd
  have tk : Takes (cxOf (L2.CX P w) P w Γ.K mg base ["_law_script", "_law_hall_told", "_law_k", "_law_pile", "_law_names_told", "_law_bodies_told", "_law_turn", "_law_old_told", "_law_told", "_law_barred"] "law" (defScope s_law) f cdv A outer s H E) (fun cls d _ H => E cls d H) := takes_of rfl rfl rfl rfl
  exact ⟨_, (pss_cons (ps_set (i := 1) nd rfl (Or.inl rfl) (pe_mI0 D_Hall___init__ ["path"] [("check", .str "stamp")] [0, 2, 1] (by simp) (fun _ _ _ _ _ _ _ us mv ws hk h1 h2 h3 => match us, mv, ws, h1, h2, h3 with | [_], [_], [_], _, _, _ => by cases hk (List.cons_ne_nil _ _); exact ⟨_, _, _, _, _, _, rfl, rfl, rfl⟩) (hr.mono (by decide)) tk (by rfl) T.g_Hall (pk_cons (pe_tup (pa_cons pe_str pa_nil)) pk_nil)))
      (pss_cons (ps_for (passes_of rfl) rfl (pi_range1 (by rfl) T.z_range (pa_cons pe_int pa_nil)) (pg_name (i := 2) nd rfl (Or.inl rfl)) (pss_cons (ps_set (i := 3) nd rfl (Or.inr rfl) (pe_lst (pa_cons (pe_dMP D_law_cell 2 [] [0, 1] (fun _ h => nomatch h) (fun _ _ _ _ _ _ _ us mv ws hk h1 h2 h3 => match us, mv, ws, h1, h2, h3 with | [_, _], [], [], _, _, _ => rfl) (hr.mono (by decide)) tk (by rfl) (pa_cons (pv 0) (pa_cons (pv 2) pa_nil))) pa_nil)))
      (pss_cons (ps_set (i := 4) nd rfl (Or.inr rfl) (pe_lst (pa_cons pe_str (pa_cons pe_str (pa_cons pe_str (pa_cons pe_str (pa_cons pe_str (pa_cons pe_str (pa_cons pe_str pa_nil)))))))))
      (pss_cons (ps_set (i := 4) nd rfl (Or.inr rfl) (pe_op uop_add (pv 4) (pe_lst (pa_cons (pe_dMP D_law_name_drawn 2 [] [0, 1] (fun _ h => nomatch h) (fun _ _ _ _ _ _ _ us mv ws hk h1 h2 h3 => match us, mv, ws, h1, h2, h3 with | [_, _], [], [], _, _, _ => rfl) (hr.mono (by decide)) tk (by rfl) (pa_cons (pv 3) (pa_cons pe_int pa_nil))) (pa_cons (pe_dMP D_law_name_drawn 2 [] [0, 1] (fun _ h => nomatch h) (fun _ _ _ _ _ _ _ us mv ws hk h1 h2 h3 => match us, mv, ws, h1, h2, h3 with | [_, _], [], [], _, _, _ => rfl) (hr.mono (by decide)) tk (by rfl) (pa_cons (pv 3) (pa_cons pe_int pa_nil))) pa_nil)))))
      (pss_cons (ps_set (i := 5) nd rfl (Or.inl rfl) (pe_lst pa_nil))
      (pss_cons (ps_for (passes_of rfl) rfl (pi_range1 (by rfl) T.z_range (pa_cons (pe_dMP D_law_take 2 [] [0, 1] (fun _ h => nomatch h) (fun _ _ _ _ _ _ _ us mv ws hk h1 h2 h3 => match us, mv, ws, h1, h2, h3 with | [_, _], [], [], _, _, _ => rfl) (hr.mono (by decide)) tk (by rfl) (pa_cons (pv 3) (pa_cons pe_int pa_nil))) pa_nil)) (pg_name (i := 6) nd rfl (Or.inl rfl)) (pss_one (ps_expr (k_bm (K := Γ.K) rfl PySem.F.plainAttrs_list PySem.F.slot_list_append PySem.F.type_list_append mt_append (pv 5) (pa_cons (pe_tup (pa_cons (pe_ix (k_ix (K := Γ.K) rfl) (pv 4) (pe_dMP D_law_take 2 [] [0, 1] (fun _ h => nomatch h) (fun _ _ _ _ _ _ _ us mv ws hk h1 h2 h3 => match us, mv, ws, h1, h2, h3 with | [_, _], [], [], _, _, _ => rfl) (hr.mono (by decide)) tk (by rfl) (pa_cons (pv 3) (pa_cons pe_int pa_nil))) (fun _ _ => rfl)) (pa_cons (pe_dMP D_law_text_drawn 1 [] [0] (fun _ h => nomatch h) (fun _ _ _ _ _ _ _ us mv ws hk h1 h2 h3 => match us, mv, ws, h1, h2, h3 with | [_], [], [], _, _, _ => rfl) (hr.mono (by decide)) tk (by rfl) (pa_cons (pv 3) pa_nil)) pa_nil))) pa_nil)))))
      (pss_cons (ps_set (i := 7) nd rfl (Or.inl rfl) (pe_ix (k_ix (K := Γ.K) rfl) (pv 4) (pe_dMP D_law_take 2 [] [0, 1] (fun _ h => nomatch h) (fun _ _ _ _ _ _ _ us mv ws hk h1 h2 h3 => match us, mv, ws, h1, h2, h3 with | [_, _], [], [], _, _, _ => rfl) (hr.mono (by decide)) tk (by rfl) (pa_cons (pv 3) (pa_cons pe_int pa_nil))) (fun _ _ => rfl)))
      (pss_cons (ps_expr (k_bm (K := Γ.K) rfl PySem.F.plainAttrs_list PySem.F.slot_list_append PySem.F.type_list_append mt_append (pv 4) (pa_cons (pe_op uop_add (pv 7) pe_str) pa_nil)))
      (pss_cons (ps_if (pt_not (pt_val (pe_dMP D_law_good 4 [] [0, 1, 2, 3] (fun _ h => nomatch h) (fun _ _ _ _ _ _ _ us mv ws hk h1 h2 h3 => match us, mv, ws, h1, h2, h3 with | [_, _, _, _], [], [], _, _, _ => rfl) (hr.mono (by decide)) tk (by rfl) (pa_cons pe_int (pa_cons (pe_callTy (k_tupOf (K := Γ.K) rfl) (by rfl) T.z_tuple (by decide +kernel) (pa_cons (pv 5) pa_nil)) (pa_cons (pv 4) (pa_cons (pv 1) pa_nil))))))) (pss_one (ps_ret pe_bl)) pss_nil)
      (pss_cons (ps_set (i := 8) nd rfl (Or.inl rfl) (pe_tup (pa_cons (pv 7) (pa_cons (pe_ix (k_ix (K := Γ.K) rfl) (pv 4) (pe_dMP D_law_take 2 [] [0, 1] (fun _ h => nomatch h) (fun _ _ _ _ _ _ _ us mv ws hk h1 h2 h3 => match us, mv, ws, h1, h2, h3 with | [_, _], [], [], _, _, _ => rfl) (hr.mono (by decide)) tk (by rfl) (pa_cons (pv 3) (pa_cons pe_int pa_nil))) (fun _ _ => rfl)) pa_nil))))
      (pss_cons (ps_if (pt_not (pt_val (pe_dMP D_law_good 4 [] [0, 1, 2, 3] (fun _ h => nomatch h) (fun _ _ _ _ _ _ _ us mv ws hk h1 h2 h3 => match us, mv, ws, h1, h2, h3 with | [_, _, _, _], [], [], _, _, _ => rfl) (hr.mono (by decide)) tk (by rfl) (pa_cons pe_int (pa_cons (pv 8) (pa_cons (pe_op uop_add (pe_slice (k_sl (K := Γ.K) rfl) (pv 4) po_none (po_some pe_int)) (pe_lst (pa_cons (pv 7) (pa_cons (pe_op uop_add (pv 7) pe_str) (pa_cons pe_str pa_nil))))) (pa_cons (pv 1) pa_nil))))))) (pss_one (ps_ret pe_bl)) pss_nil)
      (pss_cons (ps_set (i := 9) nd rfl (Or.inl rfl) (pe_callTy (k_tupOf (K := Γ.K) rfl) (by rfl) T.z_tuple (by decide +kernel) (pa_cons (pe_lc (own := [("_law_turn", 6)]) (g := gName 6) rfl nd (pi_range1 (by rfl) T.z_range (pa_cons (pe_dMP D_law_take 2 [] [0, 1] (fun _ h => nomatch h) (fun _ _ _ _ _ _ _ us mv ws hk h1 h2 h3 => match us, mv, ws, h1, h2, h3 with | [_, _], [], [], _, _, _ => rfl) (hr.mono (by decide)) tk (by rfl) (pa_cons (pv 3) (pa_cons pe_int pa_nil))) pa_nil)) (blkOk_by (N := ["_law_script", "_law_hall_told", "_law_k", "_law_pile", "_law_names_told", "_law_bodies_told", "_law_turn", "_law_old_told", "_law_told", "_law_barred"]) (sc := defScope s_law) (own := [("_law_turn", 6)]) (by decide +kernel)) (fun _ _ _ _ _ => (pg_name (i := 6) nd rfl (Or.inl rfl))) (fun _ _ _ _ _ => pts_nil) (fun _ _ _ _ _ => by exact (pe_ix (k_ix (K := Γ.K) rfl) (pv 4) (pe_dMP D_law_take 2 [] [0, 1] (fun _ h => nomatch h) (fun _ _ _ _ _ _ _ us mv ws hk h1 h2 h3 => match us, mv, ws, h1, h2, h3 with | [_, _], [], [], _, _, _ => rfl) (hr.mono (by decide)) takes0 (by rfl) (pa_cons (pv 3) (pa_cons pe_int pa_nil))) (fun _ _ => rfl)))) pa_nil)))
      (pss_one (ps_if (pt_not (pt_val (pe_dMP D_law_good 4 [] [0, 1, 2, 3] (fun _ h => nomatch h) (fun _ _ _ _ _ _ _ us mv ws hk h1 h2 h3 => match us, mv, ws, h1, h2, h3 with | [_, _, _, _], [], [], _, _, _ => rfl) (hr.mono (by decide)) tk (by rfl) (pa_cons pe_int (pa_cons (pv 9) (pa_cons (pv 4) (pa_cons (pv 1) pa_nil))))))) (pss_one (ps_ret pe_bl)) pss_nil))))))))))))))
      (pss_one (ps_ret (pe_and (pe_cmpR (k_eq (K := Γ.K) rfl hu) (pe_mtMP0 (K := Γ.K) rfl (pv 1) (tbl1_of (methB_of D_Hall_told 0 [] [] [0] (fun _ h => nomatch h) (fun _ _ _ _ _ _ _ us mv ws hk h1 h2 h3 => match us, mv, ws, h1, h2, h3 with | [_], [], [], _, _, _ => rfl))) (hr.mono (by decide)) (fun σ => passAt tk σ)) (pe_lst pa_nil) (nomark _)) (pe_one (pe_cmpR (k_eq (K := Γ.K) rfl hu) (pe_callB (k_len (K := Γ.K) rfl) (by rfl) T.z_len (by decide +kernel) (pa_cons (k_fldU (K := Γ.K) rfl (pv 1)) pa_nil)) pe_int (nomark _)))))))), (sv_seq (sv_asg (ev_make (fun _ _ => (.cons (Rp.str _) RpL.nil)) av_nil (av_cons (ev_tup (av_cons ev_str av_nil)) av_nil)) gv_name)
      (sv_seq (sv_for (iv_rng1 (av_cons ev_int av_nil)) gv_name (sv_seq (sv_asg (ev_new (av_cons (ev_call (fun _ _ => RpL.nil) (av_cons (ev_v 0) (av_cons (ev_v 2) av_nil)) av_nil) av_nil)) gv_name)
      (sv_seq (sv_asg (ev_new (av_cons ev_str (av_cons ev_str (av_cons ev_str (av_cons ev_str (av_cons ev_str (av_cons ev_str (av_cons ev_str av_nil)))))))) gv_name)
      (sv_seq (sv_asg (ev_op ro_catN (ev_v 4) (ev_lst (av_cons (ev_call (fun _ _ => RpL.nil) (av_cons (ev_v 3) (av_cons ev_int av_nil)) av_nil) (av_cons (ev_call (fun _ _ => RpL.nil) (av_cons (ev_v 3) (av_cons ev_int av_nil)) av_nil) av_nil)))) gv_name)
      (sv_seq (sv_asg (ev_new av_nil) gv_name)
      (sv_seq (sv_for (iv_rng1 (av_cons (ev_call (fun _ _ => RpL.nil) (av_cons (ev_v 3) (av_cons ev_int av_nil)) av_nil) av_nil)) gv_name (sv_drop (ev_bm rm_append (ev_v 5) (av_cons (ev_tup (av_cons (ev_op ro_ix (ev_v 4) (ev_call (fun _ _ => RpL.nil) (av_cons (ev_v 3) (av_cons ev_int av_nil)) av_nil)) (av_cons (ev_call (fun _ _ => RpL.nil) (av_cons (ev_v 3) av_nil) av_nil) av_nil))) av_nil))))
      (sv_seq (sv_asg (ev_op ro_ix (ev_v 4) (ev_call (fun _ _ => RpL.nil) (av_cons (ev_v 3) (av_cons ev_int av_nil)) av_nil)) gv_name)
      (sv_seq (sv_drop (ev_bm rm_append (ev_v 4) (av_cons (ev_op ro_add (ev_v 7) ev_str) av_nil)))
      (sv_seq (sv_if (tv_not (tv_B (ev_call (fun _ _ => RpL.nil) (av_cons ev_int (av_cons (ev_cb rc_tup (av_cons (ev_v 5) av_nil)) (av_cons (ev_v 4) (av_cons (ev_v 1) av_nil)))) av_nil))) (sv_ret ev_bl) sv_next)
      (sv_seq (sv_asg (ev_tup (av_cons (ev_v 7) (av_cons (ev_op ro_ix (ev_v 4) (ev_call (fun _ _ => RpL.nil) (av_cons (ev_v 3) (av_cons ev_int av_nil)) av_nil)) av_nil))) gv_name)
      (sv_seq (sv_if (tv_not (tv_B (ev_call (fun _ _ => RpL.nil) (av_cons ev_int (av_cons (ev_v 8) (av_cons (ev_op ro_add (ev_sl rs_sl (ev_v 4) ov_none (ov_some ev_int)) (ev_lst (av_cons (ev_v 7) (av_cons (ev_op ro_add (ev_v 7) ev_str) (av_cons ev_str av_nil))))) (av_cons (ev_v 1) av_nil)))) av_nil))) (sv_ret ev_bl) sv_next)
      (sv_seq (sv_asg (ev_cb rc_tup (av_cons (ev_lc (iv_rng1 (av_cons (ev_call (fun _ _ => RpL.nil) (av_cons (ev_v 3) (av_cons ev_int av_nil)) av_nil) av_nil)) gv_name (gl_name (by decide)) tv_yes (ev_op ro_ix (ev_v 4) (ev_call (fun _ _ => RpL.nil) (av_cons (ev_v 3) (av_cons ev_int av_nil)) av_nil))) av_nil)) gv_name)
      (sv_if (tv_not (tv_B (ev_call (fun _ _ => RpL.nil) (av_cons ev_int (av_cons (ev_v 9) (av_cons (ev_v 4) (av_cons (ev_v 1) av_nil)))) av_nil))) (sv_ret ev_bl) sv_next)))))))))))))
      (sv_ret (ev_andV (ev_op ro_eq (ev_meth (fun _ _ => RpL.nil) (ev_v 1) av_nil av_nil) (ev_lst av_nil)) (ev_op ro_eq (ev_cb rc_len (av_cons (ev_fldU T.nx T.ni (ev_v 1)) av_nil)) ev_int)))))⟩
end
theorem e_take {μ : Mem} {p : Nat} {n k : Int} (h : μ[p]? = some (.lst [.int n])) (hk : 0 < k) (hk2 : k.natAbs < 1073741824) : m_law_take [.ptr p, .int k] μ = .ok (.int (n.fmod k)) (μ.set p (.lst [.int (n.fdiv k)])) := by
  have h0 : k ≠ 0 := by omega
  have hC : CDivN n k := ⟨h0, hk2⟩
  simp [m_law_take, mDef, stSub, oIx, oMod_int h0, oFdiv_int hC, asS, asL, h, L2.atI, ixN]
theorem e_mixed {μ : Mem} {c k : Int} (h0 : 0 ≤ k) (h1 : k ≤ 10000) : m_law_mixed [.int c, .int k] μ = .ok (.int (mixedI c k)) μ := by
  have b1 := fmod_lt (a := c) (b := 2147483647) (by decide)
  have b2 := fmod_lt (a := c.fmod 2147483647 * 48271 + k * 69621 + 1048583) (b := 2147483629) (by decide)
  have b3 := fmod_lt (a := (c.fmod 2147483647 * 48271 + k * 69621 + 1048583).fmod 2147483629 * (c.fmod 2147483647 * 48271 + k * 69621 + 1048583).fmod 2147483629) (b := 2147483587) (by decide)
  have e1 : CMulW (c.fmod 2147483647) 48271 := cmw 64 64 (by omega) (by decide)
  have e2 : CMulW k 69621 := cmw 64 64 (by omega) (by decide)
  have e3 := cmw (i := (c.fmod 2147483647 * 48271 + k * 69621 + 1048583).fmod 2147483629) (j := (c.fmod 2147483647 * 48271 + k * 69621 + 1048583).fmod 2147483629) 64 64 (by omega) (by omega)
  have e4 := cmw (i := ((c.fmod 2147483647 * 48271 + k * 69621 + 1048583).fmod 2147483629 * (c.fmod 2147483647 * 48271 + k * 69621 + 1048583).fmod 2147483629).fmod 2147483587) (j := ((c.fmod 2147483647 * 48271 + k * 69621 + 1048583).fmod 2147483629 * (c.fmod 2147483647 * 48271 + k * 69621 + 1048583).fmod 2147483629).fmod 2147483587 + 2) 64 64 (by omega) (by omega)
  simp [m_law_mixed, mDef, oMod_int, oMul_int e1, oMul_int e2, oMul_int e3, oMul_int e4, mixedI]
theorem rng_at {lo : Int} {n i : Nat} {d : Dt} (h : (rngD lo n)[i]? = some d) : d = .int (lo + (i : Int)) ∧ i < n := by
  unfold rngD at h
  rw [List.getElem?_map] at h
  obtain ⟨j, hj, rfl⟩ := Option.map_eq_some_iff.mp h
  obtain ⟨h1, h2⟩ := List.getElem?_eq_some_iff.mp hj
  rw [List.length_range] at h1
  rw [List.getElem_range] at h2
  subst h2
  exact ⟨rfl, h1⟩
theorem e_cell {μ : Mem} {ns : List Int} {k : Int} (h0 : 0 ≤ k) (h1 : k ≤ 100) : m_law_cell [.scr (ns.map Dt.int), .int k] μ = .ok (.int (cellF ns k)) μ := by
  have hp : CPow 10 18 := ⟨by decide, by decide, by decide⟩
  have hp6 : CPow 10 60 := ⟨by decide, by decide, by decide⟩
  have loop : ∀ y, ∃ δ' , forL (gSet 4) b_law_cell_1 none (rngD 0 24) [some (.scr (ns.map Dt.int)), some (.int k), some (.int (cellAt ns k)), some (.int 0), y] μ = .nx δ' μ ∧ δ'[3]? = some (some (.int (foundI (cellAt ns k) k 24))) := by
    intro y
    obtain ⟨δ', μ', e, z, hz, hm⟩ := forL_run (fun i δ μ' => ∃ y, δ = [some (.scr (ns.map Dt.int)), some (.int k), some (.int (cellAt ns k)), some (.int (foundI (cellAt ns k) k i)), y] ∧ μ' = μ) ⟨y, rfl, rfl⟩ (tg := gSet 4) (body := b_law_cell_1) (ds := rngD 0 24) (μ := μ) (by
      rintro i d δ μ' hd ⟨y, rfl, rfl⟩
      obtain ⟨rfl, hi⟩ := rng_at hd
      have hb := found_nat (cellAt ns k) k i (by omega)
      have hq : (i : Int) * i ≤ 24 * 24 := Int.mul_le_mul (by omega) (by omega) (by omega) (by omega)
      have hq0 : (0 : Int) ≤ (i : Int) * i := Int.mul_nonneg (by omega) (by omega)
      have c1 : CMulW (foundI (cellAt ns k) k i) 2147483579 := cmw 744 64 hb (by decide)
      have c2 : CMulW 7 k := cmw 64 64 (by decide) (by omega)
      have c3 : CMulW 100 (0 + (i : Int)) := cmw 64 64 (by decide) (by omega)
      have c4 : CMulW (0 + (i : Int)) (0 + (i : Int)) := cmw 64 64 (by omega) (by omega)
      have em := @e_mixed μ' (cellAt ns k) (7 * k + 100 * (0 + (i : Int)) + (0 + (i : Int)) * (0 + (i : Int))) (by rw [Int.zero_add]; omega) (by rw [Int.zero_add]; omega)
      refine ⟨_, _, μ', rfl, ?_, some (.int (0 + (i : Int))), rfl, rfl⟩
      rw [found_succ]
      simp only [Int.zero_add] at *
      simp [b_law_cell_1, oMul_int c1, oMul_int c2, oMul_int c3, oMul_int c4, pm, em])
    refine ⟨δ', by rw [hm] at e; exact e, by rw [hz]; rfl⟩
  have c1 : CMulW (10 ^ (60 : Int).toNat) (10 ^ (60 : Int).toNat) := by unfold CMulW; decide +kernel
  have c2 : CMulW (10 ^ (60 : Int).toNat * 10 ^ (60 : Int).toNat) (10 ^ (60 : Int).toNat) := by unfold CMulW; decide +kernel
  have c3 : CMulW (10 ^ (60 : Int).toNat * 10 ^ (60 : Int).toNat * 10 ^ (60 : Int).toNat) (10 ^ (60 : Int).toNat) := by unfold CMulW; decide +kernel
  have nz : bigM ≠ 0 := by decide +kernel
  have rest : ∀ δ3 : DM.Env, δ3 = [some (.scr (ns.map Dt.int)), some (.int k), some (.int (cellAt ns k)), none, none] → ((sSeq (sIf (mTest (mOp oGe (mV 2) (mOp oPow (mC (.int 10)) (mC (.int 18))))) (sRet (mOp oMod (mOp oSub (mV 2) (mOp oPow (mC (.int 10)) (mC (.int 18)))) (mOp oMul (mOp oMul (mOp oMul (mOp oPow (mC (.int 10)) (mC (.int 60))) (mOp oPow (mC (.int 10)) (mC (.int 60)))) (mOp oPow (mC (.int 10)) (mC (.int 60)))) (mOp oPow (mC (.int 10)) (mC (.int 60)))))) sNext)
    (sSeq (sAsg (mC (.int 0)) (gSet 3))
    (sSeq (sFor (miRng1 (mCons (mC (.int 24)) mNil)) (gSet 4) b_law_cell_1)
    (sRet (mV 3))))) δ3 μ).out = .ok (.int (cellF ns k)) μ := by
    rintro δ3 rfl
    by_cases hc : (10 : Int) ^ (18 : Int).toNat ≤ cellAt ns k
    · have e : cellF ns k = (cellAt ns k - 10 ^ (18 : Int).toNat).fmod bigM := if_pos hc
      rw [e]
      unfold bigM at nz ⊢
      simp only [sSeq, sIf, mTest, mOp, mV, mC, bind_ok, List.getElem?_cons_succ, List.getElem?_cons_zero, oPow_int hp, oPow_int hp6, oGe_int, thn_ok, hc, decide_true, if_true, oSub_int, oMul_int c1, oMul_int c2, oMul_int c3, oMod_int nz, sRet, Othn_rt, out_rt]
    · have e : cellF ns k = foundI (cellAt ns k) k 24 := if_neg hc
      obtain ⟨δ', e1, e2⟩ := loop none
      rw [e]
      simp only [sSeq, sIf, mTest, mOp, mV, mC, bind_ok, List.getElem?_cons_succ, List.getElem?_cons_zero, oPow_int hp, oGe_int, thn_ok, hc, decide_false, if_false, Bool.false_eq_true, sNext, Othn_nx, sAsg, gSet, List.set_cons_succ, List.set_cons_zero, sFor, miRng1, mCons, mNil, srcR1]
      rw [if_pos (by decide)]
      have e1' := e1
      simp only [sAsg, mOp, mV, mC, mCall, mCons, mNil, gSet, thn_ok] at e1' ⊢
      rw [show (24 : Int).toNat = 24 from rfl, e1']
      simp [e2]
  by_cases hk : k < (ns.length : Int)
  · have e0 : (k.toNat : Int) = k := by omega
    have hx : L2.atI (ns.map Dt.int) k = some (.int (cellAt ns k)) := by
      unfold cellAt
      rw [if_pos hk]
      have := atI_nat (xs := ns.map Dt.int) (j := k.toNat) (v := .int (ns.getD k.toNat 0)) (by rw [List.getElem?_map, List.getD_eq_getElem?_getD, List.getElem?_eq_getElem (by omega)]; rfl)
      rwa [e0] at this
    have r := rest _ rfl
    unfold m_law_cell
    rw [mDef_eq (by rfl), ← r]
    simp only [sSeq, sIf, sAsg, mTest, mOp, mV, mC, mCB, mCons, mNil, bind_ok, thn_ok, gSet, Othn_nx, List.map_cons, List.map_nil, List.cons_append, List.nil_append, List.replicate, List.getElem?_cons_succ, List.getElem?_cons_zero, List.set_cons_succ, List.set_cons_zero, cLen_scr, oLt_int, List.length_map, hk, decide_true, if_true, oIx, hx]
  · have hx : cellAt ns k = 0 := if_neg hk
    have r := rest _ rfl
    rw [hx] at r
    unfold m_law_cell
    rw [mDef_eq (by rfl), ← r]
    simp only [sSeq, sIf, sAsg, mTest, mOp, mV, mC, mCB, mCons, mNil, bind_ok, thn_ok, gSet, Othn_nx, sNext, List.map_cons, List.map_nil, List.cons_append, List.nil_append, List.replicate, List.getElem?_cons_succ, List.getElem?_cons_zero, List.set_cons_succ, List.set_cons_zero, cLen_scr, oLt_int, List.length_map, hk, decide_false, if_false, Bool.false_eq_true]
theorem set_at {μ : Mem} {p : Nat} {o u : MO} (h : μ[p]? = some o) : (μ.set p u)[p]? = some u := List.getElem?_set_self (List.getElem?_eq_some_iff.mp h).1
theorem three_at (i : Int) (h0 : 0 ≤ i) (h : i < 3) : L2.atI [Dt.str "a", .str "b", .str "ab"] i = some (.str (threeS i)) := by
  have : i = 0 ∨ i = 1 ∨ i = 2 := by omega
  rcases this with rfl | rfl | rfl <;> rfl
theorem e_part {μ : Mem} {p : Nat} {n : Int} (h : μ[p]? = some (.lst [.int n])) : m_law_part_drawn [.ptr p] μ = .ok (.str (partF n).1) (μ.set p (.lst [.int (partF n).2])) := by
  have b5 := fmod_lt (a := n) (b := 5) (by decide)
  have b8 := fmod_lt (a := n.fdiv 5) (b := 8) (by decide)
  have t5 := e_take h (k := 5) (by decide) (by decide)
  have h5 := set_at (u := .lst [.int (n.fdiv 5)]) h
  have t8 := e_take h5 (k := 8) (by decide) (by decide)
  unfold m_law_part_drawn
  rw [mDef_eq (by rfl)]
  unfold partF
  by_cases hc : n.fmod 5 < 3
  · rw [if_pos hc]
    simp [pm, t5, hc, oIx, asS, asL, three_at _ b5.1 hc]
  · rw [if_neg hc]
    have h8 := set_at (u := .lst [.int ((n.fdiv 5).fdiv 8)]) h5
    have draw := lcL_drawL (tg := gSet 3) (me := mOp oIx (mC (.str "abcdefghijklmnopqrstuvwxyz")) (mCall 2 0 m_law_take [0, 1] [] (mCons (mV 0) (mCons (mC (.int 26)) mNil)) mNil)) (δ := [some (.ptr p), some (.int (n.fmod 5)), some (.int (1 + (n.fdiv 5).fmod 8)), none]) letF Dt.str (fun m => μ.set p (.lst [.int m])) (ds := rngD 0 (1 + (n.fdiv 5).fmod 8).toNat) ((n.fdiv 5).fdiv 8) (fun d hd m => ⟨_, rfl, by
      have hm := e_take (set_at (u := .lst [.int m]) h) (k := 26) (by decide) (by decide)
      have hz : ("abcdefghijklmnopqrstuvwxyz" : Str).length ≤ 10000000 := by decide +kernel
      have ha := letter_at m
      unfold letterS at ha
      simp [pm, hm, oIx, hz, ha, letF]⟩)
    have hr : -1000000000 ≤ 1 + (n.fdiv 5).fmod 8 ∧ 1 + (n.fdiv 5).fmod 8 ≤ 1000000000 := by omega
    have hl : (rngD 0 (1 + (n.fdiv 5).fmod 8).toNat).length ≤ 1000000 := by simp [rngD]; omega
    have hall : ∀ y ∈ (drawL letF (rngD 0 (1 + (n.fdiv 5).fmod 8).toNat) ((n.fdiv 5).fdiv 8)).1, y.length = 1 := drawL_all (P := fun y : Str => y.length = 1) (fun _ _ => rfl) _ _
    have hlen := drawL_len letF (rngD 0 (1 + (n.fdiv 5).fmod 8).toNat) ((n.fdiv 5).fdiv 8)
    have hrl : (rngD 0 (1 + (n.fdiv 5).fmod 8).toNat).length ≤ 8 := by simp [rngD]; omega
    generalize drawL letF (rngD 0 (1 + (n.fdiv 5).fmod 8).toNat) ((n.fdiv 5).fdiv 8) = r at draw hall hlen ⊢
    have hs : ∀ l : List Str, (∀ y ∈ l, y.length = 1) → (l.map (·.length)).sum = l.length := by
      intro l
      induction l with
      | nil => intro _; rfl
      | cons y l ih =>
        intro hy
        rw [List.map_cons, List.sum_cons, hy y List.mem_cons_self, ih fun z hz => hy z (List.mem_cons_of_mem _ hz), List.length_cons]
        omega
    have hsum := hs r.1 hall
    have he : ("" : Str).length = 0 := by decide +kernel
    have hb : (r.1.map (·.length)).sum + r.1.length * ("" : Str).length ≤ 16777216 := by rw [hsum, he]; omega
    rw [map_str] at draw
    simp (disch := first | assumption | omega | (simp; done) | (simp; omega)) [oFld_ptr, oFld_exc, insAt, mMeth_ap, dctAt, oDGet_ptr, oDIn_ptr, stPut_ptr, O_no, sTry_ap, oCatN_pl, bAppend_ptr, srcZ_lp, srcL_ptr, oSl_ptr, oIx_ptr, lstAt,  bCount_dot, bSplit_dot, bRpart_dot, bLstrip_dot, bJoin_dot, bJoin_none, oIx_lst, oIx_tup, oIx_scr, oIx_str, oSl_str, srcR1_int, srcR2_int, cLen_str, oAdd_str, oAdd_lst, oEq_int, oNe_int, oEq_str, oNe_str, mDef_ap, if_no, cLenD_ptr, t5, hc, t8, wipeD, draw]
theorem e_name {μ : Mem} {p : Nat} {n most : Int} (h : μ[p]? = some (.lst [.int n])) (h0 : 0 < most) (h1 : most ≤ 100) : m_law_name_drawn [.ptr p, .int most] μ = .ok (.str (nameF most n).1) (μ.set p (.lst [.int (nameF most n).2])) := by
  have bm := fmod_lt (a := n) (b := most) h0
  have tm := e_take h h0 (by omega)
  have hm := set_at (u := .lst [.int (n.fdiv most)]) h
  have draw := lcL_drawL (tg := gSet 2) (me := mCall 1 0 m_law_part_drawn [0] [] (mCons (mV 0) mNil) mNil) (δ := [some (.ptr p), some (.int most), none]) (fun _ m => partF m) Dt.str (fun m => μ.set p (.lst [.int m])) (ds := rngD 0 (1 + n.fmod most).toNat) (n.fdiv most) (fun d hd m => ⟨_, rfl, by
      have hm := e_part (set_at (u := .lst [.int m]) h)
      simp [pm, hm]⟩)
  unfold m_law_name_drawn
  rw [mDef_eq (by rfl)]
  have hr : -1000000000 ≤ 1 + n.fmod most ∧ 1 + n.fmod most ≤ 1000000000 := by omega
  have hl : (rngD 0 (1 + n.fmod most).toNat).length ≤ 1000000 := by simp [rngD]; omega
  have hall := parts_all most n
  have hlen := parts_len most n h0
  have hsum := sum_le hall
  have he : (dotS).length = 1 := by decide +kernel
  have hb : ((partsF most n).1.map (·.length)).sum + (partsF most n).1.length * dotS.length ≤ 16777216 := by rw [he]; omega
  unfold nameF
  unfold partsF at hb ⊢
  rw [map_str] at draw
  simp (disch := first | assumption | omega | (simp; done) | (simp; omega)) [oFld_ptr, oFld_exc, insAt, mMeth_ap, dctAt, oDGet_ptr, oDIn_ptr, stPut_ptr, O_no, sTry_ap, oCatN_pl, bAppend_ptr, srcZ_lp, srcL_ptr, oSl_ptr, oIx_ptr, lstAt,  bCount_dot, bSplit_dot, bRpart_dot, bLstrip_dot, bJoin_dot, bJoin_none, oIx_lst, oIx_tup, oIx_scr, oIx_str, oSl_str, srcR1_int, srcR2_int, cLen_str, oAdd_str, oAdd_lst, oEq_int, oNe_int, oEq_str, oNe_str, mDef_ap, if_no, cLenD_ptr, tm, wipeD, draw]

/-! names.py -/
def okT : Dt → Bool
  | .str z => decide (z.length ≤ 100000)
  | .non => true
  | .bl _ => true
  | .int _ => true
  | .lst _ => true
  | .tup _ => true
  | _ => false
def isStrD : Dt → Bool
  | .str _ => true
  | _ => false
theorem kb1 : kitB "str" "str" = some true := by decide +kernel
theorem kb2 : kitB "NoneType" "str" = some false := by decide +kernel
theorem kb3 : kitB "bool" "str" = some false := by decide +kernel
theorem kb4 : kitB "int" "str" = some false := by decide +kernel
theorem kb5 : kitB "list" "str" = some false := by decide +kernel
theorem kb6 : kitB "tuple" "str" = some false := by decide +kernel
theorem e_isstr {d : Dt} {μ : Mem} (h : okT d = true) : cIsi tab [d, .ty "str"] μ = .ok (.bl (isStrD d)) μ := by
  cases d <;> first | exact absurd h Bool.false_ne_true | simp [cIsi, tyOf, tyN, kb1, kb2, kb3, kb4, kb5, kb6, isStrD]
theorem e_part_all {z : Str} {δ : DM.Env} {μ : Mem} {c : Nat} (hj : c < δ.length) : lcL (gSet c) mYes (mOp (oIn false) (mV c) (mC (.str "abcdefghijklmnopqrstuvwxyz"))) δ none (signsD z) μ = .ok ((z.cps.toList.map fun x => decide (x ∈ smallS.cps.toList)).map Dt.bl) μ := by
  have := lcL_map (tg := gSet c) (me := mOp (oIn false) (mV c) (mC (.str "abcdefghijklmnopqrstuvwxyz"))) (δ := δ) (ds := signsD z) (μ := μ) (fun d => match d with | .str x => .bl (decide (x.cps.getD 0 0 ∈ smallS.cps.toList)) | _ => .non) (fun d hd => by
    unfold signsD at hd
    obtain ⟨x, hx, rfl⟩ := List.mem_map.mp hd
    refine ⟨_, rfl, ?_⟩
    simp [hj, oIn, smallS])
  rw [this]
  simp [signsD, Function.comp_def]
theorem e_is_part {d : Dt} {μ : Mem} (h : okT d = true) : m_is_part [d] μ = .ok (.bl (isPartD d)) μ := by
  unfold m_is_part
  rw [mDef_eq (by rfl)]
  have hi := e_isstr (μ := μ) h
  cases d with
  | str z =>
    have hz : z.length ≤ 10000000 := Nat.le_trans (of_decide_eq_true (p := z.length ≤ 100000) h) (by decide)
    have hz1 : (signsD z).length ≤ 1000000 := by simp [signsD]; exact Nat.le_trans (of_decide_eq_true (p := z.length ≤ 100000) h) (by decide)
    have ha := e_part_all (z := z) (δ := wipeD [some (.str z), none] [1]) (μ := μ) (c := 1) (by simp [wipeD])
    by_cases c1 : (1 : Int) ≤ (z.length : Int)
    · by_cases c2 : (z.length : Int) ≤ 8
      · simp only [sRet_ap, mIf_ap, mTest_ap, mCB_ap, mCons_ap, mNil_ap, mV_ap, mC_ap, bind_ok, hi, isStrD, List.map_cons, List.map_nil, List.cons_append, List.nil_append, List.replicate, List.getElem?_cons_zero, tst_bl, if_true, mChain, oLe_int, cLen_str hz, c1, c2, decide_true, mLc, lcR, miStr_ap, srcS, hz1, ha, cAll_map, thn_ok, out_rt]
        simp [isPartD, partS, c1, c2]
      · simp [hi, isStrD, mChain, cLen_str hz, c1, c2, isPartD, partS]
    · simp [hi, isStrD, mChain, cLen_str hz, c1, isPartD, partS]
  | _ => first | exact absurd h Bool.false_ne_true | simp [hi, isStrD, isPartD]
theorem okT_str {z : Str} (h : okT (.str z) = true) : z.length ≤ 100000 := of_decide_eq_true (p := z.length ≤ 100000) h
theorem e_name_all {l : List Str} {δ : DM.Env} {μ : Mem} {c : Nat} (hj : c < δ.length) (hl : ∀ y ∈ l, y.length ≤ 100000) : lcL (gSet c) mYes (mCall 1 0 m_is_part [0] [] (mCons (mV c) mNil) mNil) δ none (strsD l) μ = .ok ((l.map partS).map Dt.bl) μ := by
  have := lcL_map (tg := gSet c) (me := mCall 1 0 m_is_part [0] [] (mCons (mV c) mNil) mNil) (δ := δ) (ds := strsD l) (μ := μ) (fun d => .bl (isPartD d)) (fun d hd => by
    unfold strsD at hd
    obtain ⟨x, hx, rfl⟩ := List.mem_map.mp hd
    refine ⟨_, rfl, ?_⟩
    have e := e_is_part (μ := μ) (d := .str x) (decide_eq_true (hl x hx))
    simp [hj, pm, e])
  rw [this]
  simp [strsD, Function.comp_def, isPartD]
theorem e_is_name {d : Dt} {μ : Mem} (h : okT d = true) : m_is_name [d] μ = .ok (.bl (isNameD d)) μ := by
  unfold m_is_name
  have hi := e_isstr (μ := μ) h
  cases d with
  | str z =>
    have hz0 := okT_str h
    have hm := split_many (x := z) tl_dot (by decide)
    have ha := e_name_all (l := Txt.split z dotS) (δ := wipeD [some (.str z), some (.lst (strsD (Txt.split z dotS))), none] [2]) (μ := μ) (c := 2) (by simp [wipeD]) (fun y hy => Nat.le_trans (split_len tl_dot (by decide) hy) hz0)
    by_cases c1 : ((Txt.split z dotS).length : Int) ≤ 4
    · simp (disch := first | assumption | omega | (simp; done) | (simp; omega)) [oFld_ptr, oFld_exc, insAt, mMeth_ap, dctAt, oDGet_ptr, oDIn_ptr, stPut_ptr, O_no, sTry_ap, oCatN_pl, bAppend_ptr, srcZ_lp, srcL_ptr, oSl_ptr, oIx_ptr, lstAt,  bCount_dot, bSplit_dot, bRpart_dot, bLstrip_dot, bJoin_dot, bJoin_none, oIx_lst, oIx_tup, oIx_scr, oIx_str, oSl_str, srcR1_int, srcR2_int, cLen_str, oAdd_str, oAdd_lst, oEq_int, oNe_int, oEq_str, oNe_str, mDef_ap, if_no, cLenD_ptr, hi, isStrD, c1, ha, -List.map_map]
      simp [cAll_map, isNameD, nameS, c1, -List.map_map]
    · simp (disch := first | assumption | omega | (simp; done) | (simp; omega)) [oFld_ptr, oFld_exc, insAt, mMeth_ap, dctAt, oDGet_ptr, oDIn_ptr, stPut_ptr, O_no, sTry_ap, oCatN_pl, bAppend_ptr, srcZ_lp, srcL_ptr, oSl_ptr, oIx_ptr, lstAt,  bCount_dot, bSplit_dot, bRpart_dot, bLstrip_dot, bJoin_dot, bJoin_none, oIx_lst, oIx_tup, oIx_scr, oIx_str, oSl_str, srcR1_int, srcR2_int, cLen_str, oAdd_str, oAdd_lst, oEq_int, oNe_int, oEq_str, oNe_str, mDef_ap, if_no, cLenD_ptr, hi, isStrD, c1]
      simp [isNameD, nameS, c1]
  | _ => first | exact absurd h Bool.false_ne_true | simp (disch := first | assumption | omega | (simp; done) | (simp; omega)) [oFld_ptr, oFld_exc, insAt, mMeth_ap, dctAt, oDGet_ptr, oDIn_ptr, stPut_ptr, O_no, sTry_ap, oCatN_pl, bAppend_ptr, srcZ_lp, srcL_ptr, oSl_ptr, oIx_ptr, lstAt,  bCount_dot, bSplit_dot, bRpart_dot, bLstrip_dot, bJoin_dot, bJoin_none, oIx_lst, oIx_tup, oIx_scr, oIx_str, oSl_str, srcR1_int, srcR2_int, cLen_str, oAdd_str, oAdd_lst, oEq_int, oNe_int, oEq_str, oNe_str, mDef_ap, if_no, cLenD_ptr, hi, isStrD, isNameD]

/-! law k19 -/
theorem kt1 : kitB "str" "tuple" = some false := by decide +kernel
theorem kt2 : kitB "NoneType" "tuple" = some false := by decide +kernel
theorem kt3 : kitB "bool" "tuple" = some false := by decide +kernel
theorem kt4 : kitB "int" "tuple" = some false := by decide +kernel
theorem kt5 : kitB "list" "tuple" = some false := by decide +kernel
theorem kt6 : kitB "tuple" "tuple" = some true := by decide +kernel
def isTupD : Dt → Bool
  | .tup _ => true
  | _ => false
theorem e_istup {d : Dt} {μ : Mem} (h : okT d = true) : cIsi tab [d, .ty "tuple"] μ = .ok (.bl (isTupD d)) μ := by
  cases d <;> first | exact absurd h Bool.false_ne_true | simp [cIsi, tyOf, tyN, kt1, kt2, kt3, kt4, kt5, kt6, isTupD]
/-- with its parts -/
def okP : Dt → Bool
  | .tup l => l.all okT
  | d => okT d
def okQ : Dt → Bool
  | .tup l => l.all okP && l.all okT
  | d => okT d
def bodyD : Dt → Bool
  | .tup [a, b] => isNameD a && isStrD b
  | _ => false
def builtD : Dt → Bool
  | .tup l => l.all bodyD
  | _ => false
def barD : Dt → Bool
  | .tup l => l.all isNameD
  | _ => false
theorem e_no_finder {μ : Mem} : m_no_finder [] μ = .ex 2 [] [] μ := by
  unfold m_no_finder
  simp (disch := first | assumption | omega | (simp; done) | (simp; omega)) [oFld_ptr, oFld_exc, insAt, mMeth_ap, dctAt, oDGet_ptr, oDIn_ptr, stPut_ptr, O_no, sTry_ap, oCatN_pl, bAppend_ptr, srcZ_lp, srcL_ptr, oSl_ptr, oIx_ptr, lstAt,  bCount_dot, bSplit_dot, bRpart_dot, bLstrip_dot, bJoin_dot, bJoin_none, oIx_lst, oIx_tup, oIx_scr, oIx_str, oSl_str, srcR1_int, srcR2_int, cLen_str, oAdd_str, oAdd_lst, oEq_int, oNe_int, oEq_str, oNe_str, mDef_ap, if_no, cLenD_ptr]
theorem okP_T {d : Dt} (h : okP d = true) : okT d = true := by
  cases d <;> first | rfl | exact h
theorem okQ_T {d : Dt} (h : okQ d = true) : okT d = true := by
  cases d <;> first | rfl | exact h
theorem e_built_loop {l : List Dt} (hl : ∀ d ∈ l, okP d = true) {e0 e1 e2 : Option Dt} {μ : Mem} :
    (l.all bodyD = true → ∃ δ', forL (gSet 2) b_Built___init___1 none l [e0, e1, e2] μ = .nx δ' μ ∧ ∃ y, δ' = [e0, e1, y]) ∧ (l.all bodyD = false → ∃ δ', forL (gSet 2) b_Built___init___1 none l [e0, e1, e2] μ = .ex 2 [] [] δ' μ) := by
  refine forL_all (fun δ => ∃ y, δ = [e0, e1, y]) bodyD 2 (fun d hd δ ⟨y, hy⟩ => ?_) ⟨_, rfl⟩
  subst hy
  have ho := hl d hd
  have h1 := e_istup (μ := μ) (okP_T ho)
  refine ⟨[e0, e1, some d], rfl, fun hp => ⟨[e0, e1, some d], ?_, _, rfl⟩, fun hp => ⟨[e0, e1, some d], ?_⟩⟩
  · unfold bodyD at hp
    split at hp
    · rename_i a b
      rw [Bool.and_eq_true] at hp
      have hab : okT a = true ∧ okT b = true := by simpa [okP] using ho
      have h2 := e_is_name (μ := μ) hab.1
      have h3 := e_isstr (μ := μ) hab.2
      have x0 : L2.atI [a, b] 0 = some a := rfl
      have x1 : L2.atI [a, b] 1 = some b := rfl
      simp (disch := first | assumption | omega | (simp; done) | (simp; omega)) [oFld_ptr, oFld_exc, insAt, mMeth_ap, dctAt, oDGet_ptr, oDIn_ptr, stPut_ptr, O_no, sTry_ap, oCatN_pl, bAppend_ptr, srcZ_lp, srcL_ptr, oSl_ptr, oIx_ptr, lstAt,  bCount_dot, bSplit_dot, bRpart_dot, bLstrip_dot, bJoin_dot, bJoin_none, oIx_lst, oIx_tup, oIx_scr, oIx_str, oSl_str, srcR1_int, srcR2_int, cLen_str, oAdd_str, oAdd_lst, oEq_int, oNe_int, oEq_str, oNe_str, mDef_ap, if_no, cLenD_ptr, b_Built___init___1_ap, h1, isTupD, x0, x1, h2, h3, hp.1, hp.2]
    · cases hp
  · cases d with
    | tup l =>
      by_cases hlen : (l.length : Int) = 2
      · have : l.length = 2 := by omega
        match l, this with
        | [a, b], _ =>
          have hab : okT a = true ∧ okT b = true := by simpa [okP] using ho
          have h2 := e_is_name (μ := μ) hab.1
          have h3 := e_isstr (μ := μ) hab.2
          have x0 : L2.atI [a, b] 0 = some a := rfl
          have x1 : L2.atI [a, b] 1 = some b := rfl
          have hp : (isNameD a && isStrD b) = false := hp
          cases q1 : isNameD a with
          | false => simp (disch := first | assumption | omega | (simp; done) | (simp; omega)) [oFld_ptr, oFld_exc, insAt, mMeth_ap, dctAt, oDGet_ptr, oDIn_ptr, stPut_ptr, O_no, sTry_ap, oCatN_pl, bAppend_ptr, srcZ_lp, srcL_ptr, oSl_ptr, oIx_ptr, lstAt,  bCount_dot, bSplit_dot, bRpart_dot, bLstrip_dot, bJoin_dot, bJoin_none, oIx_lst, oIx_tup, oIx_scr, oIx_str, oSl_str, srcR1_int, srcR2_int, cLen_str, oAdd_str, oAdd_lst, oEq_int, oNe_int, oEq_str, oNe_str, mDef_ap, if_no, cLenD_ptr, b_Built___init___1_ap, h1, isTupD, x0, x1, h2, h3, q1, e_no_finder]
          | true =>
            rw [q1, Bool.true_and] at hp
            simp (disch := first | assumption | omega | (simp; done) | (simp; omega)) [oFld_ptr, oFld_exc, insAt, mMeth_ap, dctAt, oDGet_ptr, oDIn_ptr, stPut_ptr, O_no, sTry_ap, oCatN_pl, bAppend_ptr, srcZ_lp, srcL_ptr, oSl_ptr, oIx_ptr, lstAt,  bCount_dot, bSplit_dot, bRpart_dot, bLstrip_dot, bJoin_dot, bJoin_none, oIx_lst, oIx_tup, oIx_scr, oIx_str, oSl_str, srcR1_int, srcR2_int, cLen_str, oAdd_str, oAdd_lst, oEq_int, oNe_int, oEq_str, oNe_str, mDef_ap, if_no, cLenD_ptr, b_Built___init___1_ap, h1, isTupD, x0, x1, h2, h3, q1, hp, e_no_finder]
      · have : ¬ l.length = 2 := by omega
        simp (disch := first | assumption | omega | (simp; done) | (simp; omega)) [oFld_ptr, oFld_exc, insAt, mMeth_ap, dctAt, oDGet_ptr, oDIn_ptr, stPut_ptr, O_no, sTry_ap, oCatN_pl, bAppend_ptr, srcZ_lp, srcL_ptr, oSl_ptr, oIx_ptr, lstAt,  bCount_dot, bSplit_dot, bRpart_dot, bLstrip_dot, bJoin_dot, bJoin_none, oIx_lst, oIx_tup, oIx_scr, oIx_str, oSl_str, srcR1_int, srcR2_int, cLen_str, oAdd_str, oAdd_lst, oEq_int, oNe_int, oEq_str, oNe_str, mDef_ap, if_no, cLenD_ptr, b_Built___init___1_ap, h1, isTupD, hlen, this, e_no_finder]
    | _ => first | exact absurd ho Bool.false_ne_true | simp (disch := first | assumption | omega | (simp; done) | (simp; omega)) [oFld_ptr, oFld_exc, insAt, mMeth_ap, dctAt, oDGet_ptr, oDIn_ptr, stPut_ptr, O_no, sTry_ap, oCatN_pl, bAppend_ptr, srcZ_lp, srcL_ptr, oSl_ptr, oIx_ptr, lstAt,  bCount_dot, bSplit_dot, bRpart_dot, bLstrip_dot, bJoin_dot, bJoin_none, oIx_lst, oIx_tup, oIx_scr, oIx_str, oSl_str, srcR1_int, srcR2_int, cLen_str, oAdd_str, oAdd_lst, oEq_int, oNe_int, oEq_str, oNe_str, mDef_ap, if_no, cLenD_ptr, b_Built___init___1_ap, h1, isTupD, e_no_finder]
def wordF : Str := "word"
theorem e_built {d : Dt} {p : Nat} {μ : Mem} (h : okQ d = true) (hp : μ[p]? = some (.ins 18 [])) : m_Built___init__ [.ptr p, d] μ = if builtD d = true then .ok .non (μ.set p (.ins 18 [("word", .str "built"), ("built", d)])) else .ex 2 [] [] μ := by
  unfold m_Built___init__
  have h1 := e_istup (μ := μ) (okQ_T h)
  cases d with
  | tup l =>
    have hl : ∀ d ∈ l, okP d = true := by
      have : (l.all okP && l.all okT) = true := h
      rw [Bool.and_eq_true, List.all_eq_true] at this
      exact this.1
    obtain ⟨y, n⟩ := e_built_loop (l := l) hl (e0 := some (.ptr p)) (e1 := some (.tup l)) (e2 := none) (μ := μ)
    have hpl : p < μ.length := (List.getElem?_eq_some_iff.mp hp).1
    cases hb : l.all bodyD with
    | true =>
      obtain ⟨δ', e, z, rfl⟩ := y hb
      have hbd : builtD (.tup l) = true := hb
      rw [hbd]
      have s1 : stFld ni "word" [some (.ptr p), some (.tup l), z] (.str "built") (.ptr p) μ = .nx [some (.ptr p), some (.tup l), z] (μ.set p (.ins 18 [("word", .str "built")])) := stFld_ptr hp rfl (by decide)
      have s2 : stFld ni "built" [some (.ptr p), some (.tup l), z] (.tup l) (.ptr p) (μ.set p (.ins 18 [("word", .str "built")])) = .nx [some (.ptr p), some (.tup l), z] ((μ.set p (.ins 18 [("word", .str "built")])).set p (.ins 18 [("word", .str "built"), ("built", .tup l)])) := stFld_ptr (set_at hp) rfl (by decide)
      simp (disch := first | assumption | omega | (simp; done) | (simp; omega)) [oFld_ptr, oFld_exc, insAt, mMeth_ap, dctAt, oDGet_ptr, oDIn_ptr, stPut_ptr, O_no, sTry_ap, oCatN_pl, bAppend_ptr, srcZ_lp, srcL_ptr, oSl_ptr, oIx_ptr, lstAt,  bCount_dot, bSplit_dot, bRpart_dot, bLstrip_dot, bJoin_dot, bJoin_none, oIx_lst, oIx_tup, oIx_scr, oIx_str, oSl_str, srcR1_int, srcR2_int, cLen_str, oAdd_str, oAdd_lst, oEq_int, oNe_int, oEq_str, oNe_str, mDef_ap, if_no, cLenD_ptr, h1, isTupD, e, s1, s2]
    | false =>
      obtain ⟨δ', e⟩ := n hb
      have hbd : builtD (.tup l) = false := hb
      rw [hbd]
      simp (disch := first | assumption | omega | (simp; done) | (simp; omega)) [oFld_ptr, oFld_exc, insAt, mMeth_ap, dctAt, oDGet_ptr, oDIn_ptr, stPut_ptr, O_no, sTry_ap, oCatN_pl, bAppend_ptr, srcZ_lp, srcL_ptr, oSl_ptr, oIx_ptr, lstAt,  bCount_dot, bSplit_dot, bRpart_dot, bLstrip_dot, bJoin_dot, bJoin_none, oIx_lst, oIx_tup, oIx_scr, oIx_str, oSl_str, srcR1_int, srcR2_int, cLen_str, oAdd_str, oAdd_lst, oEq_int, oNe_int, oEq_str, oNe_str, mDef_ap, if_no, cLenD_ptr, h1, isTupD, e]
  | _ => first | exact absurd h Bool.false_ne_true | simp (disch := first | assumption | omega | (simp; done) | (simp; omega)) [oFld_ptr, oFld_exc, insAt, mMeth_ap, dctAt, oDGet_ptr, oDIn_ptr, stPut_ptr, O_no, sTry_ap, oCatN_pl, bAppend_ptr, srcZ_lp, srcL_ptr, oSl_ptr, oIx_ptr, lstAt,  bCount_dot, bSplit_dot, bRpart_dot, bLstrip_dot, bJoin_dot, bJoin_none, oIx_lst, oIx_tup, oIx_scr, oIx_str, oSl_str, srcR1_int, srcR2_int, cLen_str, oAdd_str, oAdd_lst, oEq_int, oNe_int, oEq_str, oNe_str, mDef_ap, if_no, cLenD_ptr, h1, isTupD, e_no_finder, builtD]
theorem e_other {a b : Dt} {p : Nat} {μ : Mem} (ha : okT a = true) (hb : okT b = true) (hp : μ[p]? = some (.ins 19 [])) : m_Other___init__ [.ptr p, a, b] μ = if (isNameD a && isNameD b) = true then .ok .non (μ.set p (.ins 19 [("word", .str "other"), ("old", a), ("new", b)])) else .ex 2 [] [] μ := by
  unfold m_Other___init__
  have h1 := e_is_name (μ := μ) ha
  have h2 := e_is_name (μ := μ) hb
  cases q1 : isNameD a with
  | false => simp (disch := first | assumption | omega | (simp; done) | (simp; omega)) [oFld_ptr, oFld_exc, insAt, mMeth_ap, dctAt, oDGet_ptr, oDIn_ptr, stPut_ptr, O_no, sTry_ap, oCatN_pl, bAppend_ptr, srcZ_lp, srcL_ptr, oSl_ptr, oIx_ptr, lstAt,  bCount_dot, bSplit_dot, bRpart_dot, bLstrip_dot, bJoin_dot, bJoin_none, oIx_lst, oIx_tup, oIx_scr, oIx_str, oSl_str, srcR1_int, srcR2_int, cLen_str, oAdd_str, oAdd_lst, oEq_int, oNe_int, oEq_str, oNe_str, mDef_ap, if_no, cLenD_ptr, h1, q1, e_no_finder]
  | true =>
    cases q2 : isNameD b with
    | false => simp (disch := first | assumption | omega | (simp; done) | (simp; omega)) [oFld_ptr, oFld_exc, insAt, mMeth_ap, dctAt, oDGet_ptr, oDIn_ptr, stPut_ptr, O_no, sTry_ap, oCatN_pl, bAppend_ptr, srcZ_lp, srcL_ptr, oSl_ptr, oIx_ptr, lstAt,  bCount_dot, bSplit_dot, bRpart_dot, bLstrip_dot, bJoin_dot, bJoin_none, oIx_lst, oIx_tup, oIx_scr, oIx_str, oSl_str, srcR1_int, srcR2_int, cLen_str, oAdd_str, oAdd_lst, oEq_int, oNe_int, oEq_str, oNe_str, mDef_ap, if_no, cLenD_ptr, h1, q1, h2, q2, e_no_finder]
    | true =>
      have s1 : stFld ni "word" [some (.ptr p), some a, some b] (.str "other") (.ptr p) μ = .nx [some (.ptr p), some a, some b] (μ.set p (.ins 19 [("word", .str "other")])) := stFld_ptr hp rfl (by decide)
      have s2 : stFld ni "old" [some (.ptr p), some a, some b] a (.ptr p) (μ.set p (.ins 19 [("word", .str "other")])) = .nx [some (.ptr p), some a, some b] ((μ.set p (.ins 19 [("word", .str "other")])).set p (.ins 19 [("word", .str "other"), ("old", a)])) := stFld_ptr (set_at hp) rfl (by decide)
      have s3 : stFld ni "new" [some (.ptr p), some a, some b] b (.ptr p) (μ.set p (.ins 19 [("word", .str "other"), ("old", a)])) = .nx [some (.ptr p), some a, some b] ((μ.set p (.ins 19 [("word", .str "other"), ("old", a)])).set p (.ins 19 [("word", .str "other"), ("old", a), ("new", b)])) := stFld_ptr (set_at hp) rfl (by simp)
      rw [List.set_set] at s2 s3
      simp (disch := first | assumption | omega | (simp; done) | (simp; omega)) [oFld_ptr, oFld_exc, insAt, mMeth_ap, dctAt, oDGet_ptr, oDIn_ptr, stPut_ptr, O_no, sTry_ap, oCatN_pl, bAppend_ptr, srcZ_lp, srcL_ptr, oSl_ptr, oIx_ptr, lstAt,  bCount_dot, bSplit_dot, bRpart_dot, bLstrip_dot, bJoin_dot, bJoin_none, oIx_lst, oIx_tup, oIx_scr, oIx_str, oSl_str, srcR1_int, srcR2_int, cLen_str, oAdd_str, oAdd_lst, oEq_int, oNe_int, oEq_str, oNe_str, mDef_ap, if_no, cLenD_ptr, h1, q1, h2, q2, s1, s2, s3]
theorem e_bar_all {l : List Dt} {δ : DM.Env} {μ : Mem} (hj : 2 < δ.length) (hl : ∀ y ∈ l, okT y = true) : lcL (gSet 2) mYes (mCall 1 0 m_is_name [0] [] (mCons (mV 2) mNil) mNil) δ none l μ = .ok ((l.map isNameD).map Dt.bl) μ := by
  have := lcL_map (tg := gSet 2) (me := mCall 1 0 m_is_name [0] [] (mCons (mV 2) mNil) mNil) (δ := δ) (ds := l) (μ := μ) (fun d => .bl (isNameD d)) (fun d hd => by
    refine ⟨_, rfl, ?_⟩
    have e := e_is_name (μ := μ) (hl d hd)
    simp (disch := first | assumption | omega | (simp; done) | (simp; omega)) [oFld_ptr, oFld_exc, insAt, mMeth_ap, dctAt, oDGet_ptr, oDIn_ptr, stPut_ptr, O_no, sTry_ap, oCatN_pl, bAppend_ptr, srcZ_lp, srcL_ptr, oSl_ptr, oIx_ptr, lstAt,  bCount_dot, bSplit_dot, bRpart_dot, bLstrip_dot, bJoin_dot, bJoin_none, oIx_lst, oIx_tup, oIx_scr, oIx_str, oSl_str, srcR1_int, srcR2_int, cLen_str, oAdd_str, oAdd_lst, oEq_int, oNe_int, oEq_str, oNe_str, mDef_ap, if_no, cLenD_ptr, hj, e])
  rw [this, List.map_map]
  rfl
theorem e_barred {d : Dt} {p : Nat} {μ : Mem} (h : okP d = true) (hlen : ∀ l, d = .tup l → l.length ≤ 1000000) (hp : μ[p]? = some (.ins 20 [])) : m_Barred___init__ [.ptr p, d] μ = if barD d = true then .ok .non (μ.set p (.ins 20 [("word", .str "barred"), ("barred", d)])) else .ex 2 [] [] μ := by
  unfold m_Barred___init__
  have h1 := e_istup (μ := μ) (okP_T h)
  cases d with
  | tup l =>
    have hl : ∀ d ∈ l, okT d = true := List.all_eq_true.mp h
    have hz := hlen l rfl
    have ha := fun δ hj => e_bar_all (δ := δ) (μ := μ) hj hl
    have hall : cAll [.lst ((l.map isNameD).map Dt.bl)] μ = .ok (.bl (barD (.tup l))) μ := by
      rw [cAll_map]
      simp [barD]
    cases hb : barD (.tup l) with
    | true =>
      rw [hb] at hall
      have s1 : stFld ni "word" [some (.ptr p), some (.tup l), none] (.str "barred") (.ptr p) μ = .nx [some (.ptr p), some (.tup l), none] (μ.set p (.ins 20 [("word", .str "barred")])) := stFld_ptr hp rfl (by decide)
      have s2 : stFld ni "barred" [some (.ptr p), some (.tup l), none] (.tup l) (.ptr p) (μ.set p (.ins 20 [("word", .str "barred")])) = .nx [some (.ptr p), some (.tup l), none] ((μ.set p (.ins 20 [("word", .str "barred")])).set p (.ins 20 [("word", .str "barred"), ("barred", .tup l)])) := stFld_ptr (set_at hp) rfl (by decide)
      simp (disch := first | assumption | omega | (simp; done) | (simp; omega)) [oFld_ptr, oFld_exc, insAt, mMeth_ap, dctAt, oDGet_ptr, oDIn_ptr, stPut_ptr, O_no, sTry_ap, oCatN_pl, bAppend_ptr, srcZ_lp, srcL_ptr, oSl_ptr, oIx_ptr, lstAt,  bCount_dot, bSplit_dot, bRpart_dot, bLstrip_dot, bJoin_dot, bJoin_none, oIx_lst, oIx_tup, oIx_scr, oIx_str, oSl_str, srcR1_int, srcR2_int, cLen_str, oAdd_str, oAdd_lst, oEq_int, oNe_int, oEq_str, oNe_str, mDef_ap, if_no, cLenD_ptr, h1, isTupD, wipeD, ha, hall, s1, s2, -List.map_map]
    | false =>
      rw [hb] at hall
      simp (disch := first | assumption | omega | (simp; done) | (simp; omega)) [oFld_ptr, oFld_exc, insAt, mMeth_ap, dctAt, oDGet_ptr, oDIn_ptr, stPut_ptr, O_no, sTry_ap, oCatN_pl, bAppend_ptr, srcZ_lp, srcL_ptr, oSl_ptr, oIx_ptr, lstAt,  bCount_dot, bSplit_dot, bRpart_dot, bLstrip_dot, bJoin_dot, bJoin_none, oIx_lst, oIx_tup, oIx_scr, oIx_str, oSl_str, srcR1_int, srcR2_int, cLen_str, oAdd_str, oAdd_lst, oEq_int, oNe_int, oEq_str, oNe_str, mDef_ap, if_no, cLenD_ptr, h1, isTupD, wipeD, ha, hall, e_no_finder, -List.map_map]
  | _ => first | exact absurd h Bool.false_ne_true | simp (disch := first | assumption | omega | (simp; done) | (simp; omega)) [oFld_ptr, oFld_exc, insAt, mMeth_ap, dctAt, oDGet_ptr, oDIn_ptr, stPut_ptr, O_no, sTry_ap, oCatN_pl, bAppend_ptr, srcZ_lp, srcL_ptr, oSl_ptr, oIx_ptr, lstAt,  bCount_dot, bSplit_dot, bRpart_dot, bLstrip_dot, bJoin_dot, bJoin_none, oIx_lst, oIx_tup, oIx_scr, oIx_str, oSl_str, srcR1_int, srcR2_int, cLen_str, oAdd_str, oAdd_lst, oEq_int, oNe_int, oEq_str, oNe_str, mDef_ap, if_no, cLenD_ptr, h1, isTupD, e_no_finder, barD]
theorem e_along {p : Nat} {μ : Mem} (hp : μ[p]? = some (.ins 17 [])) : m_Along___init__ [.ptr p] μ = .ok .non (μ.set p (.ins 17 [("word", .str "along")])) := by
  unfold m_Along___init__
  have s1 : stFld ni "word" [some (.ptr p)] (.str "along") (.ptr p) μ = .nx [some (.ptr p)] (μ.set p (.ins 17 [("word", .str "along")])) := stFld_ptr hp rfl (by decide)
  simp (disch := first | assumption | omega | (simp; done) | (simp; omega)) [oFld_ptr, oFld_exc, insAt, mMeth_ap, dctAt, oDGet_ptr, oDIn_ptr, stPut_ptr, O_no, sTry_ap, oCatN_pl, bAppend_ptr, srcZ_lp, srcL_ptr, oSl_ptr, oIx_ptr, lstAt,  bCount_dot, bSplit_dot, bRpart_dot, bLstrip_dot, bJoin_dot, bJoin_none, oIx_lst, oIx_tup, oIx_scr, oIx_str, oSl_str, srcR1_int, srcR2_int, cLen_str, oAdd_str, oAdd_lst, oEq_int, oNe_int, oEq_str, oNe_str, mDef_ap, if_no, cLenD_ptr, s1]

/-! stores.py, as data -/
def keyS : Key → Str
  | .inr s => s
  | .inl _ => Str.empty
def namesK (kvs : List (Key × Dt)) : List Str := kvs.map fun kv => keyS kv.1
def allT (kvs : List (Key × Dt)) : Prop := ∀ kv ∈ kvs, ∃ s, kv.1 = Sum.inr s
theorem asTK_of : ∀ {kvs : List (Key × Dt)}, allT kvs → asTK kvs = some (namesK kvs)
  | [], _ => rfl
  | (k, d) :: r, h => by
    obtain ⟨s, e⟩ := h (k, d) List.mem_cons_self
    cases e
    show (asTK r).map _ = _
    rw [asTK_of fun kv hkv => h kv (List.mem_cons_of_mem _ hkv)]
    rfl
theorem names_len {kvs : List (Key × Dt)} : (namesK kvs).length = kvs.length := by simp [namesK]
theorem allT_put {kvs : List (Key × Dt)} {s : Str} {v : Dt} (h : allT kvs) : allT (putKD kvs (.inr s) v) := by
  unfold putKD
  split
  · intro kv hkv
    obtain ⟨q, hq, rfl⟩ := List.mem_map.mp hkv
    split
    · exact h q hq
    · exact h q hq
  · intro kv hkv
    rcases List.mem_append.mp hkv with hq | hq
    · exact h kv hq
    · rw [List.mem_singleton.mp hq]
      exact ⟨s, rfl⟩
theorem allT_drop {kvs : List (Key × Dt)} {k : Key} (h : allT kvs) : allT (dropKD kvs k) := fun kv hkv => h kv (List.mem_filter.mp hkv).1
theorem len_put {kvs : List (Key × Dt)} {k : Key} {v : Dt} : (putKD kvs k v).length ≤ kvs.length + 1 := by
  unfold putKD
  split
  · simp
  · simp
theorem len_drop {kvs : List (Key × Dt)} {k : Key} : (dropKD kvs k).length ≤ kvs.length := List.length_filter_le _ _
theorem find_map {kvs : List (Key × Dt)} {k k' : Key} {v : Dt} : (kvs.map fun kv => if kv.1 = k then (kv.1, v) else kv).find? (fun kv => decide (kv.1 = k')) = (kvs.find? fun kv => decide (kv.1 = k')).map fun kv => if kv.1 = k then (kv.1, v) else kv := by
  induction kvs with
  | nil => rfl
  | cons a r ih =>
    rw [List.map_cons, List.find?_cons, List.find?_cons]
    have e : (if a.1 = k then (a.1, v) else a).1 = a.1 := by split <;> rfl
    rw [e]
    by_cases h : a.1 = k'
    · rw [decide_eq_true h]
      rfl
    · rw [decide_eq_false h]
      exact ih
theorem val_put {kvs : List (Key × Dt)} {k k' : Key} {v : Dt} : valD (putKD kvs k v) k' = if k' = k then some v else valD kvs k' := by
  unfold valD putKD
  split
  · rename_i h
    rw [find_map]
    by_cases c : k' = k
    · rw [if_pos c]
      subst c
      obtain ⟨q, hq, hk⟩ := List.any_eq_true.mp h
      cases e : kvs.find? fun kv => decide (kv.1 = k') with
      | none => exact absurd hk (List.find?_eq_none.mp e q hq)
      | some q2 =>
        have : q2.1 = k' := by simpa using List.find?_some e
        simp [this]
    · rw [if_neg c]
      cases e : kvs.find? fun kv => decide (kv.1 = k') with
      | none => rfl
      | some q2 =>
        have : q2.1 = k' := by simpa using List.find?_some e
        have c' : ¬ q2.1 = k := fun z => c (by rw [← this, z])
        simp [c']
  · rename_i h
    rw [List.find?_append]
    by_cases c : k' = k
    · rw [if_pos c]
      subst c
      have : kvs.find? (fun kv => decide (kv.1 = k')) = none := List.find?_eq_none.mpr fun q hq hk => h (List.any_eq_true.mpr ⟨q, hq, hk⟩)
      rw [this]
      simp
    · rw [if_neg c]
      have c' : ¬ k = k' := fun z => c z.symm
      cases e : kvs.find? fun kv => decide (kv.1 = k') <;> simp [c']
theorem val_drop {kvs : List (Key × Dt)} {k k' : Key} : valD (dropKD kvs k) k' = if k' = k then none else valD kvs k' := by
  unfold valD dropKD
  induction kvs with
  | nil => simp
  | cons a r ih =>
    rw [List.filter_cons]
    by_cases h : a.1 = k
    · simp only [h, ne_eq, not_true_eq_false, decide_false, Bool.false_eq_true, if_false]
      rw [ih, List.find?_cons]
      by_cases c : k' = k
      · rw [if_pos c, if_pos c]
      · have c' : ¬ a.1 = k' := fun z => c (by rw [← z, h])
        rw [if_neg c, if_neg c, decide_eq_false c']
    · simp only [h, ne_eq, not_false_eq_true, decide_true, if_true]
      rw [List.find?_cons, List.find?_cons]
      by_cases c2 : a.1 = k'
      · have c : ¬ k' = k := fun z => h (by rw [c2, z])
        rw [decide_eq_true c2, if_neg c]
      · rw [decide_eq_false c2]
        exact ih
theorem asK_at {μ : Mem} {b : Nat} {kvs : List (Key × Dt)} (h : μ[b]? = some (.dK kvs)) : asK μ (.ptr b) = some kvs := by
  simp [dctAt, h]
def stF (nm : Str) (b : Nat) (c : Int) : List (Str × Dt) := [("name", .str nm), ("bodies", .ptr b), ("changed", .int c)]
structure SAt (μ : Mem) (p b : Nat) (nm : Str) (kvs : List (Key × Dt)) (c : Int) : Prop where
  o : μ[p]? = some (.ins 14 (stF nm b c))
  d : μ[b]? = some (.dK kvs)
theorem lk_name {nm : Str} {b : Nat} {c : Int} : List.lookup (Str.ofString "name") (stF nm b c) = some (.str nm) := rfl
theorem lk_bodies {nm : Str} {b : Nat} {c : Int} : List.lookup (Str.ofString "bodies") (stF nm b c) = some (.ptr b) := rfl
theorem lk_changed {nm : Str} {b : Nat} {c : Int} : List.lookup (Str.ofString "changed") (stF nm b c) = some (.int c) := rfl
theorem lkm_put {nm : Str} {b : Nat} {c : Int} : List.lookup (Str.ofString "put") (stF nm b c) = none := rfl
theorem lkm_take {nm : Str} {b : Nat} {c : Int} : List.lookup (Str.ofString "take") (stF nm b c) = none := rfl
theorem lkm_entry {nm : Str} {b : Nat} {c : Int} : List.lookup (Str.ofString "entry") (stF nm b c) = none := rfl
theorem lkm_names {nm : Str} {b : Nat} {c : Int} : List.lookup (Str.ofString "names") (stF nm b c) = none := rfl
theorem ni_name : ni 14 "name" = true := by decide +kernel
theorem ni_bodies : ni 14 "bodies" = true := by decide +kernel
theorem ni_changed : ni 14 "changed" = true := by decide +kernel
section
variable {μ : Mem} {p b : Nat} {nm : Str} {kvs : List (Key × Dt)} {c : Int}
theorem f_name (h : SAt μ p b nm kvs c) : oFld nx ni "name" (.ptr p) μ = .ok (.str nm) μ := by
  rw [oFld_ptr]
  simp [insAt, h.o, ni_name, lk_name]
theorem f_bodies (h : SAt μ p b nm kvs c) : oFld nx ni "bodies" (.ptr p) μ = .ok (.ptr b) μ := by
  rw [oFld_ptr]
  simp [insAt, h.o, ni_bodies, lk_bodies]
theorem f_changed (h : SAt μ p b nm kvs c) : oFld nx ni "changed" (.ptr p) μ = .ok (.int c) μ := by
  rw [oFld_ptr]
  simp [insAt, h.o, ni_changed, lk_changed]
theorem put_changed {a : Int} : putD "changed" (.int a) (stF nm b c) = stF nm b a := rfl
end

/-! a new store -/
section
variable {μ : Mem} {p : Nat}
theorem e_init {z : Str} (hz : partS z = true) (hp : μ[p]? = some (.ins 14 [])) : m_Store___init__ [.ptr p, .str z] μ = .ok .non ((μ ++ [MO.dK []]).set p (.ins 14 (stF z μ.length 0))) := by
  unfold m_Store___init__
  have hl := (partS_len hz).2
  have hpart : m_is_part [.str z] μ = .ok (.bl (partS z)) μ := e_is_part (decide_eq_true (by omega))
  have hlt := (List.getElem?_eq_some_iff.mp hp).1
  have s1 : ∀ δ, stFld ni "name" δ (.str z) (.ptr p) μ = .nx δ (μ.set p (.ins 14 [("name", .str z)])) := fun δ => stFld_ptr hp ni_name (show 0 < 1000 by decide)
  have p2 : (μ.set p (.ins 14 [("name", .str z)]) ++ [MO.dK []])[p]? = some (.ins 14 [("name", .str z)]) := ext_at (set_at hp)
  have s2 : ∀ δ, stFld ni "bodies" δ (.ptr μ.length) (.ptr p) (μ.set p (.ins 14 [("name", .str z)]) ++ [MO.dK []]) = .nx δ ((μ.set p (.ins 14 [("name", .str z)]) ++ [MO.dK []]).set p (.ins 14 [("name", .str z), ("bodies", .ptr μ.length)])) := fun δ => stFld_ptr p2 ni_bodies (show 1 < 1000 by decide)
  have s3 : ∀ δ, stFld ni "changed" δ (.int 0) (.ptr p) ((μ.set p (.ins 14 [("name", .str z)]) ++ [MO.dK []]).set p (.ins 14 [("name", .str z), ("bodies", .ptr μ.length)])) = .nx δ (((μ.set p (.ins 14 [("name", .str z)]) ++ [MO.dK []]).set p (.ins 14 [("name", .str z), ("bodies", .ptr μ.length)])).set p (.ins 14 (stF z μ.length 0))) := fun δ => stFld_ptr (set_at p2) ni_changed (show 2 < 1000 by decide)
  have fin : ((μ.set p (.ins 14 [("name", .str z)]) ++ [MO.dK []]).set p (.ins 14 [("name", .str z), ("bodies", .ptr μ.length)])).set p (.ins 14 (stF z μ.length 0)) = (μ ++ [MO.dK []]).set p (.ins 14 (stF z μ.length 0)) := by
    rw [List.set_set, List.set_append_left _ _ (by simp; exact hlt), List.set_append_left _ _ hlt, List.set_set]
  rw [← fin]
  have hlen : (μ.set p (.ins 14 [("name", .str z)])).length = μ.length := by simp
  generalize hM1 : μ.set p (.ins 14 [("name", .str z)]) = M1 at *
  rw [← hlen] at s2 s3 ⊢
  generalize hM2 : (M1 ++ [MO.dK []]).set p (.ins 14 [("name", .str z), ("bodies", .ptr M1.length)]) = M2 at s2 s3 ⊢
  generalize hM3 : M2.set p (.ins 14 (stF z M1.length 0)) = M3 at s3 ⊢
  simp (disch := first | assumption | omega | (simp; done) | (simp; omega)) [oFld_ptr, oFld_exc, insAt, mMeth_ap, dctAt, oDGet_ptr, oDIn_ptr, stPut_ptr, O_no, sTry_ap, oCatN_pl, bAppend_ptr, srcZ_lp, srcL_ptr, oSl_ptr, oIx_ptr, lstAt,  bCount_dot, bSplit_dot, bRpart_dot, bLstrip_dot, bJoin_dot, bJoin_none, oIx_lst, oIx_tup, oIx_scr, oIx_str, oSl_str, srcR1_int, srcR2_int, cLen_str, oAdd_str, oAdd_lst, oEq_int, oNe_int, oEq_str, oNe_str, mDef_ap, if_no, cLenD_ptr, hpart, hz, s1, s2, s3]
end

/-! law k18: finders' answers -/
theorem forL_runG {tg : MG} {body : MS} {ds : List Dt} {gd : Option (Nat × MO)} {δ : DM.Env} {μ : Mem} (P : Nat → DM.Env → Mem → Prop) (hg : ∀ i δ μ, P i δ μ → okG gd μ) (h0 : P 0 δ μ)
    (hs : ∀ i d δ μ, ds[i]? = some d → P i δ μ → ∃ δ1 δ' μ', tg d δ μ = some δ1 ∧ body δ1 μ = .nx δ' μ' ∧ P (i + 1) δ' μ') : ∃ δ' μ', forL tg body gd ds δ μ = .nx δ' μ' ∧ P ds.length δ' μ' := by
  induction ds generalizing P δ μ with
  | nil => exact ⟨δ, μ, by rw [forL, if_pos (hg _ _ _ h0)], h0⟩
  | cons d ds ih =>
    obtain ⟨δ1, δ', μ', e1, e2, p⟩ := hs 0 d δ μ rfl h0
    obtain ⟨δ2, μ2, e3, p2⟩ := ih (fun i => P (i + 1)) (fun i => hg (i + 1)) p fun i d δ μ h => hs (i + 1) d δ μ (by simpa using h)
    refine ⟨δ2, μ2, ?_, p2⟩
    rw [forL, if_pos (hg _ _ _ h0), e1]
    simp only [e2]
    exact e3
/-- an answer -/
def isAns (d : Dt) : Prop := d = .non ∨ ∃ w : Str, (∃ x : Str, d = .tup [.str w, .str x, .non]) ∨ d = .tup [.str w, .non, .non]
theorem ne_ans {μ : Mem} {d : Dt} (h : isAns d) : oNe d d μ = .ok (.bl false) μ := by
  rcases h with rfl | ⟨w, ⟨x, rfl⟩ | rfl⟩ <;> simp [oNe, toPM, toPs, PyData.eqv, PyData.eqvAll]
def prD (p : Str × Str) : Dt := .tup [.str p.1, .str p.2]
def bodsD (l : List (Str × Str)) : Dt := .tup (l.map prD)
/-- the first body's text -/
def firstB (l : List (Str × Str)) (z : Str) : Option Str := (l.find? fun p => p.1 == z).map (·.2)
def ansB (l : List (Str × Str)) (z : Str) : Dt := match firstB l z with
  | some t => .tup [.str "built", .str t, .non]
  | none => .non
theorem ans_b {l : List (Str × Str)} {z : Str} : isAns (ansB l z) := by
  unfold ansB
  split
  · exact .inr ⟨_, .inl ⟨_, rfl⟩⟩
  · exact .inl rfl
section
variable {μ : Mem} {p : Nat} {z : Str} {pl hl : Dt}
theorem nf_w18 : ni 18 "word" = true := by decide +kernel
theorem nf_b18 : ni 18 "built" = true := by decide +kernel
theorem nf_w19 : ni 19 "word" = true := by decide +kernel
theorem nf_o19 : ni 19 "old" = true := by decide +kernel
theorem nf_n19 : ni 19 "new" = true := by decide +kernel
theorem nf_w20 : ni 20 "word" = true := by decide +kernel
theorem nf_b20 : ni 20 "barred" = true := by decide +kernel
theorem b_loop : ∀ (l : List (Str × Str)) (e0 e1 e2 e3 e4 e5 : Option Dt) (he1 : e1 = some (.str z)),
    (∃ y4 y5, firstB l z = none ∧ forL (gTupM 2 (gsCons (gSet 4) (gsCons (gSet 5) gsNil))) b_Built_find_1 none (l.map prD) [e0, e1, e2, e3, e4, e5] μ = .nx [e0, e1, e2, e3, y4, y5] μ) ∨
    ∃ t, firstB l z = some t ∧ forL (gTupM 2 (gsCons (gSet 4) (gsCons (gSet 5) gsNil))) b_Built_find_1 none (l.map prD) [e0, e1, e2, e3, e4, e5] μ = .rt (.tup [.str "built", .str t, .non]) μ
  | [], e0, e1, e2, e3, e4, e5, _ => .inl ⟨e4, e5, rfl, by simp [forL]⟩
  | (n, t) :: l, e0, e1, e2, e3, e4, e5, he1 => by
    subst he1
    unfold firstB
    rw [List.find?_cons]
    cases hn : (n == z) with
    | true =>
      right
      refine ⟨t, rfl, ?_⟩
      have hb : b_Built_find_1 [e0, some (.str z), e2, e3, some (.str n), some (.str t)] μ = .rt (.tup [.str "built", .str t, .non]) μ := by
        simp (disch := first | assumption | omega | (simp; done) | (simp; omega)) [oFld_ptr, oFld_exc, insAt, mMeth_ap, dctAt, oDGet_ptr, oDIn_ptr, stPut_ptr, O_no, sTry_ap, oCatN_pl, bAppend_ptr, srcZ_lp, srcL_ptr, oSl_ptr, oIx_ptr, lstAt,  bCount_dot, bSplit_dot, bRpart_dot, bLstrip_dot, bJoin_dot, bJoin_none, oIx_lst, oIx_tup, oIx_scr, oIx_str, oSl_str, srcR1_int, srcR2_int, cLen_str, oAdd_str, oAdd_lst, oEq_int, oNe_int, oEq_str, oNe_str, mDef_ap, if_no, cLenD_ptr, b_Built_find_1_ap, hn]
      simp [prD, forL, gTupM, gsCons, gsNil, hb]
    | false =>
      have hb : b_Built_find_1 [e0, some (.str z), e2, e3, some (.str n), some (.str t)] μ = .nx [e0, some (.str z), e2, e3, some (.str n), some (.str t)] μ := by
        simp (disch := first | assumption | omega | (simp; done) | (simp; omega)) [oFld_ptr, oFld_exc, insAt, mMeth_ap, dctAt, oDGet_ptr, oDIn_ptr, stPut_ptr, O_no, sTry_ap, oCatN_pl, bAppend_ptr, srcZ_lp, srcL_ptr, oSl_ptr, oIx_ptr, lstAt,  bCount_dot, bSplit_dot, bRpart_dot, bLstrip_dot, bJoin_dot, bJoin_none, oIx_lst, oIx_tup, oIx_scr, oIx_str, oSl_str, srcR1_int, srcR2_int, cLen_str, oAdd_str, oAdd_lst, oEq_int, oNe_int, oEq_str, oNe_str, mDef_ap, if_no, cLenD_ptr, b_Built_find_1_ap, hn]
      rcases b_loop l e0 (some (.str z)) e2 e3 (some (.str n)) (some (.str t)) rfl with ⟨y4, y5, h1, h2⟩ | ⟨x, h1, h2⟩
      · left
        refine ⟨y4, y5, h1, ?_⟩
        simp [prD, forL, gTupM, gsCons, gsNil, hb]
        exact h2
      · right
        refine ⟨x, h1, ?_⟩
        simp [prD, forL, gTupM, gsCons, gsNil, hb]
        exact h2
theorem find_b {l : List (Str × Str)} (hp : μ[p]? = some (.ins 18 [("word", .str "built"), ("built", bodsD l)])) : m_Built_find [.ptr p, .str z, pl, hl] μ = .ok (ansB l z) μ := by
  unfold m_Built_find ansB
  have ff : oFld nx ni "built" (.ptr p) μ = .ok (bodsD l) μ := by
    rw [oFld_ptr]
    have e : List.lookup (Str.ofString "built") [(Str.ofString "word", Dt.str "built"), (Str.ofString "built", bodsD l)] = some (bodsD l) := rfl
    simp [insAt, hp, nf_b18, e]
  unfold bodsD at ff
  rcases b_loop (z := z) (μ := μ) l (some (.ptr p)) (some (.str z)) (some pl) (some hl) none none rfl with ⟨y4, y5, h1, h2⟩ | ⟨t, h1, h2⟩
  · rw [h1]
    generalize l.map prD = LL at ff h2
    simp (disch := first | assumption | omega | (simp; done) | (simp; omega)) [oFld_ptr, oFld_exc, insAt, mMeth_ap, dctAt, oDGet_ptr, oDIn_ptr, stPut_ptr, O_no, sTry_ap, oCatN_pl, bAppend_ptr, srcZ_lp, srcL_ptr, oSl_ptr, oIx_ptr, lstAt,  bCount_dot, bSplit_dot, bRpart_dot, bLstrip_dot, bJoin_dot, bJoin_none, oIx_lst, oIx_tup, oIx_scr, oIx_str, oSl_str, srcR1_int, srcR2_int, cLen_str, oAdd_str, oAdd_lst, oEq_int, oNe_int, oEq_str, oNe_str, mDef_ap, if_no, cLenD_ptr, ff, h2, -oFld_ptr]
  · rw [h1]
    generalize l.map prD = LL at ff h2
    simp (disch := first | assumption | omega | (simp; done) | (simp; omega)) [oFld_ptr, oFld_exc, insAt, mMeth_ap, dctAt, oDGet_ptr, oDIn_ptr, stPut_ptr, O_no, sTry_ap, oCatN_pl, bAppend_ptr, srcZ_lp, srcL_ptr, oSl_ptr, oIx_ptr, lstAt,  bCount_dot, bSplit_dot, bRpart_dot, bLstrip_dot, bJoin_dot, bJoin_none, oIx_lst, oIx_tup, oIx_scr, oIx_str, oSl_str, srcR1_int, srcR2_int, cLen_str, oAdd_str, oAdd_lst, oEq_int, oNe_int, oEq_str, oNe_str, mDef_ap, if_no, cLenD_ptr, ff, h2, -oFld_ptr]
theorem texts_of (l : List (Str × Str)) : ((l.map prD).filter fun d => match d with | .tup [.str n, .str _] => n == z | _ => false).map (fun d => match d with | .tup [.str _, .str t] => Dt.str t | _ => .non) = ((l.filter fun q => q.1 == z).map fun q => Dt.str q.2) := by
  rw [List.filter_map, List.map_map]
  rfl
theorem first_of (l : List (Str × Str)) : ((l.filter fun q => q.1 == z).map fun q => q.2).head? = firstB l z := by
  unfold firstB
  rw [List.head?_map, List.head?_filter]
def isN (z : Str) : Dt → Bool
  | .tup [.str n, .str _] => n == z
  | _ => false
def txD : Dt → Dt
  | .tup [.str _, .str t] => .str t
  | _ => .non
theorem filt_b (l : List (Str × Str)) : ((l.map prD).filter (isN z)).map txD = strsD ((l.filter fun q => q.1 == z).map fun q => q.2) := by
  unfold strsD
  rw [List.filter_map, List.map_map, List.map_map]
  rfl
theorem ne_nil {l : List Str} : oNe (.lst (strsD l)) (.lst []) μ = .ok (.bl (!l.isEmpty)) μ := by
  cases l with
  | nil => simp [oNe, strsD, toPM, toPs, PyData.eqv, PyData.eqvAll]
  | cons x r =>
    have e : toPM μ 8 (.lst (strsD (x :: r))) = some (.list ((x :: r).map PyData.str)) := by
      have key : ∀ (l : List Str) (n : Nat), toPs (toPM μ n) (strsD l) = some (l.map PyData.str) := by
        intro l n
        induction l with
        | nil => rfl
        | cons y r ih =>
          show toPs (toPM μ n) (Dt.str y :: strsD r) = _
          have e : toPM μ n (.str y) = some (.str y) := by cases n <;> rfl
          rw [toPs, e, ih]
          rfl
      rw [toPM, key]
      rfl
    have e2 : toPM μ 8 (.lst []) = some (.list []) := rfl
    unfold oNe
    rw [e, e2]
    simp [PyData.eqv, PyData.eqvAll]
theorem due_b {l : List (Str × Str)} (hl : l.length ≤ 1000) : m_law_due [.int 0, bodsD l, .str z] μ = .ok (ansB l z) μ := by
  have lc := lcL_pure (tg := gTupM 2 (gsCons (gSet 4) (gsCons (gSet 5) gsNil))) (nt := mTest (mOp oEq (mV 4) (mV 2))) (me := mV 5) (δ := [some (.int 0), some (bodsD l), some (.str z), none, none, none]) (ds := l.map prD) (μ := μ) (isN z) txD (by
    intro d hd
    obtain ⟨q, hq, rfl⟩ := List.mem_map.mp hd
    refine ⟨[some (.int 0), some (bodsD l), some (.str z), none, some (.str q.1), some (.str q.2)], rfl, ?_, fun _ => rfl⟩
    show (mTest (mOp oEq (mV 4) (mV 2))) _ _ = .ok (q.1 == z) μ
    generalize bodsD l = BB
    simp (disch := first | assumption | omega | (simp; done) | (simp; omega)) [oFld_ptr, oFld_exc, insAt, mMeth_ap, dctAt, oDGet_ptr, oDIn_ptr, stPut_ptr, O_no, sTry_ap, oCatN_pl, bAppend_ptr, srcZ_lp, srcL_ptr, oSl_ptr, oIx_ptr, lstAt,  bCount_dot, bSplit_dot, bRpart_dot, bLstrip_dot, bJoin_dot, bJoin_none, oIx_lst, oIx_tup, oIx_scr, oIx_str, oSl_str, srcR1_int, srcR2_int, cLen_str, oAdd_str, oAdd_lst, oEq_int, oNe_int, oEq_str, oNe_str, mDef_ap, if_no, cLenD_ptr])
  rw [filt_b] at lc
  have hf := first_of (z := z) l
  have hfl : ((l.filter fun q => q.1 == z).map fun q => q.2).length ≤ 1000 := by
    rw [List.length_map]
    exact Nat.le_trans (List.length_filter_le _ _) hl
  generalize (l.filter fun q => q.1 == z).map (fun q => q.2) = F at lc hf hfl
  have hn := ne_nil (μ := μ) (l := F)
  unfold m_law_due ansB
  rw [← hf]
  have hl2 : (l.map prD).length ≤ 1000000 := by rw [List.length_map]; omega
  unfold bodsD at lc ⊢
  generalize l.map prD = LL at lc hl2 ⊢
  rw [mDef_ap (by rfl)]
  cases F with
  | nil =>
    have j0 : L2.atI [Dt.str (Str.ofString "")] 0 = some (.str (Str.ofString "")) := rfl
    have k0 : L2.atI [Dt.non, .tup [.str (Str.ofString "built"), .str (Str.ofString ""), .non]] 0 = some .non := rfl
    have hn : oNe (.lst []) (.lst []) μ = .ok (.bl false) μ := hn
    have lc : lcL (gTupM 2 (gsCons (gSet 4) (gsCons (gSet 5) gsNil))) (mTest (mOp oEq (mV 4) (mV 2))) (mV 5) [some (.int 0), some (.tup LL), some (.str z), none, none, none] none LL μ = .ok [] μ := lc
    simp (disch := first | assumption | omega | (simp; done) | (simp; omega)) [oFld_ptr, oFld_exc, insAt, mMeth_ap, dctAt, oDGet_ptr, oDIn_ptr, stPut_ptr, O_no, sTry_ap, oCatN_pl, bAppend_ptr, srcZ_lp, srcL_ptr, oSl_ptr, oIx_ptr, lstAt,  bCount_dot, bSplit_dot, bRpart_dot, bLstrip_dot, bJoin_dot, bJoin_none, oIx_lst, oIx_tup, oIx_scr, oIx_str, oSl_str, srcR1_int, srcR2_int, cLen_str, oAdd_str, oAdd_lst, oEq_int, oNe_int, oEq_str, oNe_str, mDef_ap, if_no, cLenD_ptr, wipeD, lc, hn, j0, k0]
  | cons x r =>
    have j0 : L2.atI (strsD (x :: (r ++ [Str.ofString ""]))) 0 = some (.str x) := atI_nat (j := 0) rfl
    have k1 : L2.atI [Dt.non, .tup [.str (Str.ofString "built"), .str x, .non]] 1 = some (.tup [.str (Str.ofString "built"), .str x, .non]) := rfl
    have hn : oNe (.lst (strsD (x :: r))) (.lst []) μ = .ok (.bl true) μ := hn
    have hadd : oAdd (.lst (strsD (x :: r))) (.lst [.str (Str.ofString "")]) μ = .ok (.lst (strsD (x :: (r ++ [Str.ofString ""])))) μ := by
      rw [strsD_one]
      have := oAdd_lst (ds := strsD (x :: r)) (es := strsD [Str.ofString ""]) (μ := μ) (by simp; simp at hfl; omega)
      rw [this]
      simp
    generalize hXX : strsD (x :: r) = XX at *
    generalize strsD (x :: (r ++ [Str.ofString ""])) = YY at *
    simp (disch := first | assumption | omega | (simp; done) | (simp; omega)) [oFld_ptr, oFld_exc, insAt, mMeth_ap, dctAt, oDGet_ptr, oDIn_ptr, stPut_ptr, O_no, sTry_ap, oCatN_pl, bAppend_ptr, srcZ_lp, srcL_ptr, oSl_ptr, oIx_ptr, lstAt,  bCount_dot, bSplit_dot, bRpart_dot, bLstrip_dot, bJoin_dot, bJoin_none, oIx_lst, oIx_tup, oIx_scr, oIx_str, oSl_str, srcR1_int, srcR2_int, cLen_str, oAdd_str, oAdd_lst, oEq_int, oNe_int, oEq_str, oNe_str, mDef_ap, if_no, cLenD_ptr, wipeD, lc, hn, hadd, j0, k1, -oAdd_lst]
/-! other -/
def ansO (o w z : Str) : Dt := if (z == o || Txt.startswith z (o ++ Str.ofString ".")) = true then .tup [.str "other", .str (w ++ cutS z (some (o.length : Int)) none), .non] else .non
theorem ans_o {o w : Str} : isAns (ansO o w z) := by
  unfold ansO
  split
  · exact .inr ⟨_, .inl ⟨_, rfl⟩⟩
  · exact .inl rfl
theorem find_o {o w : Str} (hp : μ[p]? = some (.ins 19 [("word", .str "other"), ("old", .str o), ("new", .str w)])) (ho : o.length ≤ 1000) (hw : w.length ≤ 1000) (hz : z.length ≤ 1000) : m_Other_find [.ptr p, .str z, pl, hl] μ = .ok (ansO o w z) μ := by
  have f1 : oFld nx ni "old" (.ptr p) μ = .ok (.str o) μ := by
    rw [oFld_ptr]
    have e : List.lookup (Str.ofString "old") [(Str.ofString "word", Dt.str "other"), (Str.ofString "old", .str o), (Str.ofString "new", .str w)] = some (.str o) := rfl
    simp [insAt, hp, nf_o19, e]
  have f2 : oFld nx ni "new" (.ptr p) μ = .ok (.str w) μ := by
    rw [oFld_ptr]
    have e : List.lookup (Str.ofString "new") [(Str.ofString "word", Dt.str "other"), (Str.ofString "old", .str o), (Str.ofString "new", .str w)] = some (.str w) := rfl
    simp [insAt, hp, nf_n19, e]
  have a1 : oAdd (.str o) (.str (Str.ofString ".")) μ = .ok (.str (o ++ Str.ofString ".")) μ := oAdd_str (by have : (Str.ofString ".").length = 1 := rfl; omega)
  have hc := cutS_len z (some (o.length : Int)) none
  have sl : oSl (.str z) (some (o.length : Int)) none μ = .ok (.str (cutS z (some (o.length : Int)) none)) μ := oSl_str (by omega)
  have a2 : oAdd (.str w) (.str (cutS z (some (o.length : Int)) none)) μ = .ok (.str (w ++ cutS z (some (o.length : Int)) none)) μ := oAdd_str (by omega)
  have st : bStartswith (.str z) [.str (o ++ Str.ofString ".")] μ = .ok (.bl (Txt.startswith z (o ++ Str.ofString "."))) μ := rfl
  have lo : cLen [.str o] μ = .ok (.int o.length) μ := cLen_str (by omega)
  unfold m_Other_find ansO
  generalize cutS z (some (o.length : Int)) none = C at *
  generalize Txt.startswith z (o ++ Str.ofString ".") = S at *
  generalize o ++ Str.ofString "." = OD at *
  cases hzo : (z == o) with
  | true => simp (disch := first | assumption | omega | (simp; done) | (simp; omega)) [oFld_ptr, oFld_exc, insAt, mMeth_ap, dctAt, oDGet_ptr, oDIn_ptr, stPut_ptr, O_no, sTry_ap, oCatN_pl, bAppend_ptr, srcZ_lp, srcL_ptr, oSl_ptr, oIx_ptr, lstAt,  bCount_dot, bSplit_dot, bRpart_dot, bLstrip_dot, bJoin_dot, bJoin_none, oIx_lst, oIx_tup, oIx_scr, oIx_str, oSl_str, srcR1_int, srcR2_int, cLen_str, oAdd_str, oAdd_lst, oEq_int, oNe_int, oEq_str, oNe_str, mDef_ap, if_no, cLenD_ptr, f1, f2, hzo, lo, sl, a2, -oFld_ptr, -oAdd_str, -oSl_str, -cLen_str]
  | false =>
    cases S with
    | true => simp (disch := first | assumption | omega | (simp; done) | (simp; omega)) [oFld_ptr, oFld_exc, insAt, mMeth_ap, dctAt, oDGet_ptr, oDIn_ptr, stPut_ptr, O_no, sTry_ap, oCatN_pl, bAppend_ptr, srcZ_lp, srcL_ptr, oSl_ptr, oIx_ptr, lstAt,  bCount_dot, bSplit_dot, bRpart_dot, bLstrip_dot, bJoin_dot, bJoin_none, oIx_lst, oIx_tup, oIx_scr, oIx_str, oSl_str, srcR1_int, srcR2_int, cLen_str, oAdd_str, oAdd_lst, oEq_int, oNe_int, oEq_str, oNe_str, mDef_ap, if_no, cLenD_ptr, f1, f2, hzo, a1, st, lo, sl, a2, -oFld_ptr, -oAdd_str, -oSl_str, -cLen_str]
    | false => simp (disch := first | assumption | omega | (simp; done) | (simp; omega)) [oFld_ptr, oFld_exc, insAt, mMeth_ap, dctAt, oDGet_ptr, oDIn_ptr, stPut_ptr, O_no, sTry_ap, oCatN_pl, bAppend_ptr, srcZ_lp, srcL_ptr, oSl_ptr, oIx_ptr, lstAt,  bCount_dot, bSplit_dot, bRpart_dot, bLstrip_dot, bJoin_dot, bJoin_none, oIx_lst, oIx_tup, oIx_scr, oIx_str, oSl_str, srcR1_int, srcR2_int, cLen_str, oAdd_str, oAdd_lst, oEq_int, oNe_int, oEq_str, oNe_str, mDef_ap, if_no, cLenD_ptr, f1, f2, hzo, a1, st, lo, sl, a2, -oFld_ptr, -oAdd_str, -oSl_str, -cLen_str]
theorem tl_ofdot : tl (Str.ofString ".") = [46] := by decide +kernel
theorem starts_cut {o : Str} : Txt.startswith z (o ++ Str.ofString ".") = (cutS z none (some ((o.length : Int) + 1)) == o ++ Str.ofString ".") := by
  have h1 : ((o.length : Int) + 1) = ((o.length + 1 : Nat) : Int) := rfl
  have ht := tl_cutTo z (o.length + 1)
  have hlen : (o ++ Str.ofString ".").length = o.length + 1 := by
    rw [add_len]
    rfl
  unfold Txt.startswith
  rw [h1, PySem.StrLaws.subAt_eq, hlen, List.drop_zero]
  have e : (cutS z none (some ((o.length + 1 : Nat) : Int)) == o ++ Str.ofString ".") = ((z.cps.toList.take (o.length + 1)) == (o ++ Str.ofString ".").cps.toList) := by
    rw [Bool.eq_iff_iff, beq_iff_eq, beq_iff_eq]
    constructor
    · intro h
      rw [← h]
      exact ht.symm
    · intro h
      exact ext_tl (ht.trans h)
  rw [e]
  cases hq : ((z.cps.toList.take (o.length + 1)) == (o ++ Str.ofString ".").cps.toList) with
  | false => rw [Bool.and_false]
  | true =>
    have hq := eq_of_beq hq
    have : (z.cps.toList.take (o.length + 1)).length = o.length + 1 := by
      rw [hq]
      exact hlen
    rw [List.length_take] at this
    have hz : z.length = z.cps.toList.length := by simp [Str.length]
    have : 0 + (o.length + 1) ≤ z.length := by omega
    rw [decide_eq_true this]
    rfl
theorem cut_all {o : Str} : cutS o (some (o.length : Int)) none = Str.empty := by
  apply ext_tl
  rw [tl_cutFrom]
  have : tl o = o.cps.toList := rfl
  rw [List.drop_eq_nil_of_le (by rw [this]; simp [Str.length])]
  rfl
theorem app_empty {w : Str} : w ++ Str.empty = w := by
  apply ext_tl
  rw [tl_append]
  have : tl Str.empty = [] := rfl
  rw [this, List.append_nil]
theorem due_o {o w : Str} (ho : o.length ≤ 1000) (hw : w.length ≤ 1000) (hz : z.length ≤ 1000) : m_law_due [.int 1, .tup [.str o, .str w], .str z] μ = .ok (ansO o w z) μ := by
  have a1 : oAdd (.str o) (.str (Str.ofString ".")) μ = .ok (.str (o ++ Str.ofString ".")) μ := oAdd_str (by have : (Str.ofString ".").length = 1 := rfl; omega)
  have hc := cutS_len z (some (o.length : Int)) none
  have sl : oSl (.str z) (some (o.length : Int)) none μ = .ok (.str (cutS z (some (o.length : Int)) none)) μ := oSl_str (by omega)
  have s2 : oSl (.str z) none (some ((o.length : Int) + 1)) μ = .ok (.str (cutS z none (some ((o.length : Int) + 1)))) μ := oSl_str (by omega)
  have a2 : oAdd (.str w) (.str (cutS z (some (o.length : Int)) none)) μ = .ok (.str (w ++ cutS z (some (o.length : Int)) none)) μ := oAdd_str (by omega)
  have lo : cLen [.str o] μ = .ok (.int o.length) μ := cLen_str (by omega)
  have x0 : L2.atI [Dt.str o, .str w] 0 = some (.str o) := rfl
  have x1 : L2.atI [Dt.str o, .str w] 1 = some (.str w) := rfl
  unfold m_law_due ansO
  rw [starts_cut]
  cases hzo : (z == o) with
  | true =>
    have hzo' := eq_of_beq hzo
    subst hzo'
    have e : w ++ cutS z (some (z.length : Int)) none = w := by rw [cut_all, app_empty]
    rw [e]
    simp (disch := first | assumption | omega | (simp; done) | (simp; omega)) [oFld_ptr, oFld_exc, insAt, mMeth_ap, dctAt, oDGet_ptr, oDIn_ptr, stPut_ptr, O_no, sTry_ap, oCatN_pl, bAppend_ptr, srcZ_lp, srcL_ptr, oSl_ptr, oIx_ptr, lstAt,  bCount_dot, bSplit_dot, bRpart_dot, bLstrip_dot, bJoin_dot, bJoin_none, oIx_lst, oIx_tup, oIx_scr, oIx_str, oSl_str, srcR1_int, srcR2_int, cLen_str, oAdd_str, oAdd_lst, oEq_int, oNe_int, oEq_str, oNe_str, mDef_ap, if_no, cLenD_ptr, x0, x1, hzo]
  | false =>
    generalize cutS z (some (o.length : Int)) none = C at *
    generalize cutS z none (some ((o.length : Int) + 1)) = C2 at *
    generalize o ++ Str.ofString "." = OD at *
    cases hq : (C2 == OD) <;> simp (disch := first | assumption | omega | (simp; done) | (simp; omega)) [oFld_ptr, oFld_exc, insAt, mMeth_ap, dctAt, oDGet_ptr, oDIn_ptr, stPut_ptr, O_no, sTry_ap, oCatN_pl, bAppend_ptr, srcZ_lp, srcL_ptr, oSl_ptr, oIx_ptr, lstAt,  bCount_dot, bSplit_dot, bRpart_dot, bLstrip_dot, bJoin_dot, bJoin_none, oIx_lst, oIx_tup, oIx_scr, oIx_str, oSl_str, srcR1_int, srcR2_int, cLen_str, oAdd_str, oAdd_lst, oEq_int, oNe_int, oEq_str, oNe_str, mDef_ap, if_no, cLenD_ptr, x0, x1, hzo, lo, s2, a1, hq, sl, a2, -oAdd_str, -oSl_str, -cLen_str, -strsD_cons]
/-! barred -/
def ansR (l : List Str) (z : Str) : Dt := if (l.any fun e => z == e) = true then .tup [.str "barred", .non, .non] else .non
theorem ans_r {l : List Str} : isAns (ansR l z) := by
  unfold ansR
  split
  · exact .inr ⟨_, .inr rfl⟩
  · exact .inl rfl
theorem in_strs {l : List Str} : oIn false (.str z) (.tup (strsD l)) μ = .ok (.bl (l.any fun e => z == e)) μ := by
  have e : oIn false (.str z) (.tup (strsD l)) μ = if flatD (.str z) = true ∧ (strsD l).all flatD = true then .ok (.bl ((strsD l).any fun e => eqF e (.str z))) μ else .no := rfl
  have hf : (strsD l).all flatD = true := by
    unfold strsD
    rw [List.all_map]
    exact List.all_eq_true.mpr fun _ _ => rfl
  rw [e, if_pos ⟨rfl, hf⟩]
  unfold strsD
  rw [List.any_map]
  congr 3
  funext x
  show (x == z) = (z == x)
  rw [Bool.eq_iff_iff, beq_iff_eq, beq_iff_eq]
  exact eq_comm
theorem find_r {l : List Str} (hp : μ[p]? = some (.ins 20 [("word", .str "barred"), ("barred", .tup (strsD l))])) : m_Barred_find [.ptr p, .str z, pl, hl] μ = .ok (ansR l z) μ := by
  have f1 : oFld nx ni "barred" (.ptr p) μ = .ok (.tup (strsD l)) μ := by
    rw [oFld_ptr]
    have e : List.lookup (Str.ofString "barred") [(Str.ofString "word", Dt.str "barred"), (Str.ofString "barred", .tup (strsD l))] = some (.tup (strsD l)) := rfl
    simp [insAt, hp, nf_b20, e]
  have hi := in_strs (μ := μ) (z := z) (l := l)
  unfold m_Barred_find ansR
  generalize (l.any fun e => z == e) = B at *
  cases B <;> simp (disch := first | assumption | omega | (simp; done) | (simp; omega)) [oFld_ptr, oFld_exc, insAt, mMeth_ap, dctAt, oDGet_ptr, oDIn_ptr, stPut_ptr, O_no, sTry_ap, oCatN_pl, bAppend_ptr, srcZ_lp, srcL_ptr, oSl_ptr, oIx_ptr, lstAt,  bCount_dot, bSplit_dot, bRpart_dot, bLstrip_dot, bJoin_dot, bJoin_none, oIx_lst, oIx_tup, oIx_scr, oIx_str, oSl_str, srcR1_int, srcR2_int, cLen_str, oAdd_str, oAdd_lst, oEq_int, oNe_int, oEq_str, oNe_str, mDef_ap, if_no, cLenD_ptr, f1, hi, -oFld_ptr]
theorem due_r {l : List Str} : m_law_due [.int 2, .tup (strsD l), .str z] μ = .ok (ansR l z) μ := by
  have hi := in_strs (μ := μ) (z := z) (l := l)
  have k0 : L2.atI [Dt.non, .tup [.str (Str.ofString "barred"), .non, .non]] 0 = some .non := rfl
  have k1 : L2.atI [Dt.non, .tup [.str (Str.ofString "barred"), .non, .non]] 1 = some (.tup [.str (Str.ofString "barred"), .non, .non]) := rfl
  unfold m_law_due ansR
  generalize (l.any fun e => z == e) = B at *
  cases B <;> simp (disch := first | assumption | omega | (simp; done) | (simp; omega)) [oFld_ptr, oFld_exc, insAt, mMeth_ap, dctAt, oDGet_ptr, oDIn_ptr, stPut_ptr, O_no, sTry_ap, oCatN_pl, bAppend_ptr, srcZ_lp, srcL_ptr, oSl_ptr, oIx_ptr, lstAt,  bCount_dot, bSplit_dot, bRpart_dot, bLstrip_dot, bJoin_dot, bJoin_none, oIx_lst, oIx_tup, oIx_scr, oIx_str, oSl_str, srcR1_int, srcR2_int, cLen_str, oAdd_str, oAdd_lst, oEq_int, oNe_int, oEq_str, oNe_str, mDef_ap, if_no, cLenD_ptr, hi, k0, k1]
end

/-! law k18: the hall -/
theorem skL_cons {g : MG} {e : MX} {δ δ1 : DM.Env} {d : Dt} {ds : List Dt} {acc : List Str} {x : Str} {μ μ2 : Mem} (h1 : g d δ μ = some δ1) (h2 : e δ1 μ = .ok (.str x) μ2) : skL g e δ none (d :: ds) acc μ = skL g e δ none ds (acc ++ [x]) μ2 := by
  rw [skL, if_pos (by simp), h1]
  simp only [h2]
theorem skL_nil {g : MG} {e : MX} {δ : DM.Env} {acc : List Str} {μ : Mem} : skL g e δ none [] acc μ = .ok (.int ((dedL acc).length : Nat)) μ := by
  rw [skL, if_pos (by simp)]
theorem dcL_cons {g : MG} {kx e : MX} {δ δ1 : DM.Env} {d kd y : Dt} {k : Key} {ds : List Dt} {acc : List (Key × Dt)} {μ μ2 μ3 : Mem} (h1 : g d δ μ = some δ1) (h2 : kx δ1 μ = .ok kd μ2) (hk : keyD kd = some k) (h3 : e δ1 μ2 = .ok y μ3) : dcL g kx e δ none (d :: ds) acc μ = dcL g kx e δ none ds (putKD acc k y) μ3 := by
  rw [dcL, if_pos (by simp), h1]
  simp only [h2, hk, h3]
theorem dcL_nil {g : MG} {kx e : MX} {δ : DM.Env} {acc : List (Key × Dt)} {μ : Mem} : dcL g kx e δ none [] acc μ = .ok (.ptr μ.length) (μ ++ [.dK acc]) := by
  rw [dcL, if_pos (by simp)]
theorem part_one : partS "one" = true := by decide +kernel
theorem e_path1 {μ : Mem} : m_look_at_path [.tup [.str "one"]] μ = .ok .non μ := by
  have hp : m_is_part [.str "one"] μ = .ok (.bl true) μ := by
    have := e_is_part (d := .str "one") (μ := μ) (by decide +kernel)
    have e : isPartD (.str "one") = true := part_one
    rwa [e] at this
  have ht : cIsi tab [.tup [.str "one"], .ty "tuple"] μ = .ok (.bl true) μ := by
    have := e_istup (d := .tup [.str "one"]) (μ := μ) rfl
    exact this
  have ha : cAll [.lst [.bl true]] μ = .ok (.bl true) μ := cAll_map (bs := [true])
  have hs : skL (gSet 1) (mV 1) [some (.tup [.str "one"]), none] none [.str "one"] [] μ = .ok (.int 1) μ := by
    rw [skL_cons (x := "one") (δ1 := [some (.tup [.str "one"]), some (.str "one")]) rfl rfl, skL_nil]
    rfl
  unfold m_look_at_path
  simp (disch := first | assumption | omega | (simp; done) | (simp; omega)) [oFld_ptr, oFld_exc, insAt, mMeth_ap, dctAt, oDGet_ptr, oDIn_ptr, stPut_ptr, O_no, sTry_ap, oCatN_pl, bAppend_ptr, srcZ_lp, srcL_ptr, oSl_ptr, oIx_ptr, lstAt,  bCount_dot, bSplit_dot, bRpart_dot, bLstrip_dot, bJoin_dot, bJoin_none, oIx_lst, oIx_tup, oIx_scr, oIx_str, oSl_str, srcR1_int, srcR2_int, cLen_str, oAdd_str, oAdd_lst, oEq_int, oNe_int, oEq_str, oNe_str, mDef_ap, if_no, cLenD_ptr, ht, lcL_cons, lcL_nil, wipeD, hp, ha, mLenSk, hs]
def M18 : Mem := [.ins 21 [("clock", .int 0), ("lists", .ptr 1), ("forms", .ptr 3), ("finders", .tup [.ptr 5]), ("path", .tup [.str "one"]), ("stores", .ptr 8), ("modules", .ptr 9), ("table", .ptr 10), ("workers", .ptr 11), ("log", .tup []), ("marks", .lst [])], .ins 15 [("known", .ptr 2)], .dK [], .ins 16 [("check", .str "stamp"), ("read", .ptr 4), ("made", .int 0), ("kept", .int 0)], .dT [], .ins 17 [("word", .str "along")], .ins 14 [("name", .str "one"), ("bodies", .ptr 7), ("changed", .int 0)], .dK [], .dK [(.inr "one", .ptr 6)], .dK [(.inl 1, .ptr 12)], .dK [], .dK [(.inr "", .ptr 15)], .ins 24 [("number", .int 1), ("name", .str ""), ("state", .str "whole"), ("places", .non), ("doer", .non), ("worths", .ptr 13), ("sums", .ptr 14), ("shown", .non), ("body", .non)], .dK [], .dK [], .ins 22 [("word", .str ""), ("module", .int 1), ("tasks", .lst []), ("had", .int 0), ("begun", .int 0), ("sleeper", .non)]]
theorem e_hall : m_Hall___init__ [.ptr 0, .tup [.str "one"], .str "stamp"] [.ins 21 []] = .ok .non M18 := by
  unfold m_Hall___init__
  rw [mDef_ap (by rfl)]
  refine Eq.trans (b := O.out (.nx [some (.ptr 0), some (.tup [.str "one"]), some (.str "stamp"), none] M18)) (congrArg O.out ?_) rfl
  refine seq_step (δ1 := [some (.ptr 0), some (.tup [.str "one"]), some (.str "stamp"), none]) (μ1 := [.ins 21 []]) (by
    have e := e_path1 (μ := [.ins 21 []])
    simp (disch := first | assumption | omega | (simp; done) | (simp; omega)) [oFld_ptr, oFld_exc, insAt, mMeth_ap, dctAt, oDGet_ptr, oDIn_ptr, stPut_ptr, O_no, sTry_ap, oCatN_pl, bAppend_ptr, srcZ_lp, srcL_ptr, oSl_ptr, oIx_ptr, lstAt,  bCount_dot, bSplit_dot, bRpart_dot, bLstrip_dot, bJoin_dot, bJoin_none, oIx_lst, oIx_tup, oIx_scr, oIx_str, oSl_str, srcR1_int, srcR2_int, cLen_str, oAdd_str, oAdd_lst, oEq_int, oNe_int, oEq_str, oNe_str, mDef_ap, if_no, cLenD_ptr, e]) ?_
  refine seq_step (δ1 := [some (.ptr 0), some (.tup [.str "one"]), some (.str "stamp"), none]) (μ1 := [.ins 21 [("clock", .int 0)]]) (by kernel_rfl) ?_
  refine seq_step (δ1 := [some (.ptr 0), some (.tup [.str "one"]), some (.str "stamp"), none]) (μ1 := [.ins 21 [("clock", .int 0), ("lists", .ptr 1)], .ins 15 [("known", .ptr 2)], .dK []]) (by kernel_rfl) ?_
  refine seq_step (δ1 := [some (.ptr 0), some (.tup [.str "one"]), some (.str "stamp"), none]) (μ1 := [.ins 21 [("clock", .int 0), ("lists", .ptr 1), ("forms", .ptr 3)], .ins 15 [("known", .ptr 2)], .dK [], .ins 16 [("check", .str "stamp"), ("read", .ptr 4), ("made", .int 0), ("kept", .int 0)], .dT []]) (by kernel_rfl) ?_
  refine seq_step (δ1 := [some (.ptr 0), some (.tup [.str "one"]), some (.str "stamp"), none]) (μ1 := [.ins 21 [("clock", .int 0), ("lists", .ptr 1), ("forms", .ptr 3), ("finders", .tup [.ptr 5])], .ins 15 [("known", .ptr 2)], .dK [], .ins 16 [("check", .str "stamp"), ("read", .ptr 4), ("made", .int 0), ("kept", .int 0)], .dT [], .ins 17 [("word", .str "along")]]) (by kernel_rfl) ?_
  refine seq_step (δ1 := [some (.ptr 0), some (.tup [.str "one"]), some (.str "stamp"), none]) (μ1 := [.ins 21 [("clock", .int 0), ("lists", .ptr 1), ("forms", .ptr 3), ("finders", .tup [.ptr 5]), ("path", .tup [.str "one"])], .ins 15 [("known", .ptr 2)], .dK [], .ins 16 [("check", .str "stamp"), ("read", .ptr 4), ("made", .int 0), ("kept", .int 0)], .dT [], .ins 17 [("word", .str "along")]]) (by kernel_rfl) ?_
  refine seq_step (δ1 := [some (.ptr 0), some (.tup [.str "one"]), some (.str "stamp"), none]) (μ1 := [.ins 21 [("clock", .int 0), ("lists", .ptr 1), ("forms", .ptr 3), ("finders", .tup [.ptr 5]), ("path", .tup [.str "one"]), ("stores", .ptr 8)], .ins 15 [("known", .ptr 2)], .dK [], .ins 16 [("check", .str "stamp"), ("read", .ptr 4), ("made", .int 0), ("kept", .int 0)], .dT [], .ins 17 [("word", .str "along")], .ins 14 [("name", .str "one"), ("bodies", .ptr 7), ("changed", .int 0)], .dK [], .dK [(.inr "one", .ptr 6)]]) (by
    have e : mDc (miTup (mV 1)) (gSet 3) (mV 3) (mMake 14 1 0 m_Store___init__ [0, 1] [] (mCons (mV 3) mNil) mNil) [3] [some (.ptr 0), some (.tup [.str "one"]), some (.str "stamp"), none] [.ins 21 [("clock", .int 0), ("lists", .ptr 1), ("forms", .ptr 3), ("finders", .tup [.ptr 5]), ("path", .tup [.str "one"])], .ins 15 [("known", .ptr 2)], .dK [], .ins 16 [("check", .str "stamp"), ("read", .ptr 4), ("made", .int 0), ("kept", .int 0)], .dT [], .ins 17 [("word", .str "along")]] = .ok (.ptr 8) [.ins 21 [("clock", .int 0), ("lists", .ptr 1), ("forms", .ptr 3), ("finders", .tup [.ptr 5]), ("path", .tup [.str "one"])], .ins 15 [("known", .ptr 2)], .dK [], .ins 16 [("check", .str "stamp"), ("read", .ptr 4), ("made", .int 0), ("kept", .int 0)], .dT [], .ins 17 [("word", .str "along")], .ins 14 [("name", .str "one"), ("bodies", .ptr 7), ("changed", .int 0)], .dK [], .dK [(.inr "one", .ptr 6)]] := by
      have hm : mMake 14 1 0 m_Store___init__ [0, 1] [] (mCons (mV 3) mNil) mNil [some (.ptr 0), some (.tup [.str "one"]), some (.str "stamp"), some (.str "one")] [.ins 21 [("clock", .int 0), ("lists", .ptr 1), ("forms", .ptr 3), ("finders", .tup [.ptr 5]), ("path", .tup [.str "one"])], .ins 15 [("known", .ptr 2)], .dK [], .ins 16 [("check", .str "stamp"), ("read", .ptr 4), ("made", .int 0), ("kept", .int 0)], .dT [], .ins 17 [("word", .str "along")]] = .ok (.ptr 6) [.ins 21 [("clock", .int 0), ("lists", .ptr 1), ("forms", .ptr 3), ("finders", .tup [.ptr 5]), ("path", .tup [.str "one"])], .ins 15 [("known", .ptr 2)], .dK [], .ins 16 [("check", .str "stamp"), ("read", .ptr 4), ("made", .int 0), ("kept", .int 0)], .dT [], .ins 17 [("word", .str "along")], .ins 14 [("name", .str "one"), ("bodies", .ptr 7), ("changed", .int 0)], .dK []] := by
        have e := e_init (μ := [.ins 21 [("clock", .int 0), ("lists", .ptr 1), ("forms", .ptr 3), ("finders", .tup [.ptr 5]), ("path", .tup [.str "one"])], .ins 15 [("known", .ptr 2)], .dK [], .ins 16 [("check", .str "stamp"), ("read", .ptr 4), ("made", .int 0), ("kept", .int 0)], .dT [], .ins 17 [("word", .str "along")], .ins 14 []]) (p := 6) (z := "one") part_one rfl
        show (R.bind (m_Store___init__ [.ptr 6, .str "one"] [.ins 21 [("clock", .int 0), ("lists", .ptr 1), ("forms", .ptr 3), ("finders", .tup [.ptr 5]), ("path", .tup [.str "one"])], .ins 15 [("known", .ptr 2)], .dK [], .ins 16 [("check", .str "stamp"), ("read", .ptr 4), ("made", .int 0), ("kept", .int 0)], .dT [], .ins 17 [("word", .str "along")], .ins 14 []]) _) = _
        rw [e]
        rfl
      show (if ([Dt.str "one"].length ≤ 4000) then dcL (gSet 3) (mV 3) (mMake 14 1 0 m_Store___init__ [0, 1] [] (mCons (mV 3) mNil) mNil) [some (.ptr 0), some (.tup [.str "one"]), some (.str "stamp"), none] none [.str "one"] [] [.ins 21 [("clock", .int 0), ("lists", .ptr 1), ("forms", .ptr 3), ("finders", .tup [.ptr 5]), ("path", .tup [.str "one"])], .ins 15 [("known", .ptr 2)], .dK [], .ins 16 [("check", .str "stamp"), ("read", .ptr 4), ("made", .int 0), ("kept", .int 0)], .dT [], .ins 17 [("word", .str "along")]] else .no) = _
      rw [if_pos (by decide), dcL_cons (k := .inr "one") (δ1 := [some (.ptr 0), some (.tup [.str "one"]), some (.str "stamp"), some (.str "one")]) rfl rfl rfl hm, dcL_nil]
      rfl
    rw [sFldM_ap, e]
    kernel_rfl) ?_
  refine seq_step (δ1 := [some (.ptr 0), some (.tup [.str "one"]), some (.str "stamp"), none]) (μ1 := [.ins 21 [("clock", .int 0), ("lists", .ptr 1), ("forms", .ptr 3), ("finders", .tup [.ptr 5]), ("path", .tup [.str "one"]), ("stores", .ptr 8), ("modules", .ptr 9)], .ins 15 [("known", .ptr 2)], .dK [], .ins 16 [("check", .str "stamp"), ("read", .ptr 4), ("made", .int 0), ("kept", .int 0)], .dT [], .ins 17 [("word", .str "along")], .ins 14 [("name", .str "one"), ("bodies", .ptr 7), ("changed", .int 0)], .dK [], .dK [(.inr "one", .ptr 6)], .dK []]) (by kernel_rfl) ?_
  refine seq_step (δ1 := [some (.ptr 0), some (.tup [.str "one"]), some (.str "stamp"), none]) (μ1 := [.ins 21 [("clock", .int 0), ("lists", .ptr 1), ("forms", .ptr 3), ("finders", .tup [.ptr 5]), ("path", .tup [.str "one"]), ("stores", .ptr 8), ("modules", .ptr 9), ("table", .ptr 10)], .ins 15 [("known", .ptr 2)], .dK [], .ins 16 [("check", .str "stamp"), ("read", .ptr 4), ("made", .int 0), ("kept", .int 0)], .dT [], .ins 17 [("word", .str "along")], .ins 14 [("name", .str "one"), ("bodies", .ptr 7), ("changed", .int 0)], .dK [], .dK [(.inr "one", .ptr 6)], .dK [], .dK []]) (by kernel_rfl) ?_
  refine seq_step (δ1 := [some (.ptr 0), some (.tup [.str "one"]), some (.str "stamp"), none]) (μ1 := [.ins 21 [("clock", .int 0), ("lists", .ptr 1), ("forms", .ptr 3), ("finders", .tup [.ptr 5]), ("path", .tup [.str "one"]), ("stores", .ptr 8), ("modules", .ptr 9), ("table", .ptr 10), ("workers", .ptr 11)], .ins 15 [("known", .ptr 2)], .dK [], .ins 16 [("check", .str "stamp"), ("read", .ptr 4), ("made", .int 0), ("kept", .int 0)], .dT [], .ins 17 [("word", .str "along")], .ins 14 [("name", .str "one"), ("bodies", .ptr 7), ("changed", .int 0)], .dK [], .dK [(.inr "one", .ptr 6)], .dK [], .dK [], .dK []]) (by kernel_rfl) ?_
  refine seq_step (δ1 := [some (.ptr 0), some (.tup [.str "one"]), some (.str "stamp"), none]) (μ1 := [.ins 21 [("clock", .int 0), ("lists", .ptr 1), ("forms", .ptr 3), ("finders", .tup [.ptr 5]), ("path", .tup [.str "one"]), ("stores", .ptr 8), ("modules", .ptr 9), ("table", .ptr 10), ("workers", .ptr 11), ("log", .tup [])], .ins 15 [("known", .ptr 2)], .dK [], .ins 16 [("check", .str "stamp"), ("read", .ptr 4), ("made", .int 0), ("kept", .int 0)], .dT [], .ins 17 [("word", .str "along")], .ins 14 [("name", .str "one"), ("bodies", .ptr 7), ("changed", .int 0)], .dK [], .dK [(.inr "one", .ptr 6)], .dK [], .dK [], .dK []]) (by kernel_rfl) ?_
  refine seq_step (δ1 := [some (.ptr 0), some (.tup [.str "one"]), some (.str "stamp"), none]) (μ1 := [.ins 21 [("clock", .int 0), ("lists", .ptr 1), ("forms", .ptr 3), ("finders", .tup [.ptr 5]), ("path", .tup [.str "one"]), ("stores", .ptr 8), ("modules", .ptr 9), ("table", .ptr 10), ("workers", .ptr 11), ("log", .tup []), ("marks", .lst [])], .ins 15 [("known", .ptr 2)], .dK [], .ins 16 [("check", .str "stamp"), ("read", .ptr 4), ("made", .int 0), ("kept", .int 0)], .dT [], .ins 17 [("word", .str "along")], .ins 14 [("name", .str "one"), ("bodies", .ptr 7), ("changed", .int 0)], .dK [], .dK [(.inr "one", .ptr 6)], .dK [], .dK [], .dK []]) (by kernel_rfl) ?_
  kernel_rfl
def hallF : List (Str × Dt) := [("clock", .int 0), ("lists", .ptr 1), ("forms", .ptr 3), ("finders", .tup [.ptr 5]), ("path", .tup [.str "one"]), ("stores", .ptr 8), ("modules", .ptr 9), ("table", .ptr 10), ("workers", .ptr 11), ("log", .tup []), ("marks", .lst [])]
theorem ni_hall : ∀ f ∈ [Str.ofString "clock", Str.ofString "lists", Str.ofString "forms", Str.ofString "finders", Str.ofString "path", Str.ofString "stores", Str.ofString "modules", Str.ofString "table", Str.ofString "workers", Str.ofString "log", Str.ofString "marks"], ni 21 f = true := by decide +kernel
structure HI (μ : Mem) : Prop where
  o : μ[0]? = some (.ins 21 hallF)
  t : μ[10]? = some (.dK [])
  l : 16 ≤ μ.length
theorem HI.app {μ ν : Mem} (h : HI μ) : HI (μ ++ ν) := ⟨ext_at h.o, ext_at h.t, by rw [List.length_append]; have := h.l; omega⟩
theorem HI.set {μ : Mem} {i : Nat} {o : MO} (h : HI μ) (hi : 16 ≤ i) : HI (μ.set i o) := ⟨by rw [List.getElem?_set_ne (by omega)]; exact h.o, by rw [List.getElem?_set_ne (by omega)]; exact h.t, by rw [List.length_set]; exact h.l⟩
section
variable {μ : Mem}
theorem HI_M : HI M18 := ⟨rfl, rfl, by decide⟩
theorem e_told (h : HI μ) : m_Hall_told [.ptr 0] μ = .ok (.lst []) μ := by
  have f1 : oFld nx ni "table" (.ptr 0) μ = .ok (.ptr 10) μ := by
    rw [oFld_ptr]
    have e : List.lookup (Str.ofString "table") hallF = some (.ptr 10) := rfl
    have n : ni 21 "table" = true := by decide +kernel
    simp [insAt, h.o, n, e]
  have ht := h.t
  unfold m_Hall_told
  simp (disch := first | assumption | omega | (simp; done) | (simp; omega)) [oFld_ptr, oFld_exc, insAt, mMeth_ap, dctAt, oDGet_ptr, oDIn_ptr, stPut_ptr, O_no, sTry_ap, oCatN_pl, bAppend_ptr, srcZ_lp, srcL_ptr, oSl_ptr, oIx_ptr, lstAt,  bCount_dot, bSplit_dot, bRpart_dot, bLstrip_dot, bJoin_dot, bJoin_none, oIx_lst, oIx_tup, oIx_scr, oIx_str, oSl_str, srcR1_int, srcR2_int, cLen_str, oAdd_str, oAdd_lst, oEq_int, oNe_int, oEq_str, oNe_str, mDef_ap, if_no, cLenD_ptr, f1, mSortI0, ht, lcL_nil, -oFld_ptr]
theorem f_log (h : HI μ) : oFld nx ni "log" (.ptr 0) μ = .ok (.tup []) μ := by
  rw [oFld_ptr]
  have e : List.lookup (Str.ofString "log") hallF = some (.tup []) := rfl
  have n : ni 21 "log" = true := by decide +kernel
  simp [insAt, h.o, n, e]
end

/-! law k18: asked -/
section
variable {μ : Mem}
/-- which finder, told what, and its answers -/
structure Fd (w : Nat) (t : Dt) (ans : Str → Dt) : Prop where
  mak : ∀ (μ : Mem) (k : Nat), k < 2 → ∃ p ν, m_law_made [.int (w : Int), t, .int (k : Int)] μ = .ok (.ptr p) (μ ++ ν) ∧ ∃ cn fs, (μ ++ ν)[p]? = some (.ins cn fs) ∧ List.lookup (Str.ofString "find") fs = none ∧
    (∃ f, tblC [(18, m_Built_find), (19, m_Other_find), (20, m_Barred_find)] cn = some f ∧ ∀ (M : Mem) (z : Str) (pl : Dt), z.length ≤ 1000 → M[p]? = some (.ins cn fs) → f [.ptr p, .str z, pl, .ptr 0] M = .ok (ans z) M) ∧
    ∃ wd : Str, oFld nx ni "word" (.ptr p) (μ ++ ν) = .ok (.str wd) (μ ++ ν) ∧ L2.atI [Dt.str "built", .str "other", .str "barred"] (w : Int) = some (.str wd)
  due : ∀ (μ : Mem) (z : Str), z.length ≤ 1000 → m_law_due [.int (w : Int), t, .str z] μ = .ok (ans z) μ
  is : ∀ z, isAns (ans z)
theorem good_loop {w : Nat} {t nm : Dt} {ans : Str → Dt} {l : List Str} {gd : Option (Nat × MO)} (F : Fd w t ans) (hl : ∀ z ∈ l, z.length ≤ 1000) (hs : ∀ ν, srcL nm (μ ++ ν) = .ok (strsD l, gd) (μ ++ ν)) (hg : ∀ ν, okG gd (μ ++ ν)) :
    ∃ ν, m_law_good [.int (w : Int), t, nm, .ptr 0] μ = .ok (.bl true) (μ ++ ν) := by
  obtain ⟨δ', μ', g8, ⟨_, ν, rfl⟩⟩ := forL_run (fun i δ' μ' => (∃ y4 y5 y6 y7 y8, δ' = [some (.int (w : Int)), some t, some nm, some (.ptr 0), y4, y5, y6, y7, y8]) ∧ ∃ ν, μ' = μ ++ ν) (tg := gSet 4) (body := b_law_good_1) (ds := rngD 0 2) (δ := [some (.int (w : Int)), some t, some nm, some (.ptr 0), none, none, none, none, none]) (μ := μ) ⟨⟨_, _, _, _, _, rfl⟩, [], by simp⟩ (by
    rintro i d δ μ2 hd ⟨⟨y4, y5, y6, y7, y8, rfl⟩, ν, rfl⟩
    obtain ⟨rfl, hi⟩ := rng_at hd
    obtain ⟨p, ν1, mk, cn, fs, hp, hlk, ⟨f, hf, hfa⟩, wd, hw1, hw2⟩ := F.mak (μ ++ ν) i hi
    have hsrc := hs (ν ++ ν1)
    have hgd := hg (ν ++ ν1)
    rw [← List.append_assoc] at hsrc hgd
    have ik : (0 + (i : Int)) = (i : Int) := Int.zero_add _
    generalize hM : μ ++ ν ++ ν1 = M at *
    -- the names
    obtain ⟨δ2, μ3, g3, ⟨⟨z6, z7, z8, rfl⟩, hm3⟩⟩ := forL_runG (gd := gd) (fun j δ' μ' => (∃ z6 z7 z8, δ' = [some (.int (w : Int)), some t, some nm, some (.ptr 0), some (.int (0 + (i : Int))), some (.ptr p), z6, z7, z8]) ∧ μ' = M) (tg := gSet 6) (body := b_law_good_2) (ds := strsD l) (δ := [some (.int (w : Int)), some t, some nm, some (.ptr 0), some (.int (0 + (i : Int))), some (.ptr p), y6, y7, y8]) (μ := M) (fun j δ μ q => by rw [q.2]; exact hgd) ⟨⟨_, _, _, rfl⟩, rfl⟩ (by
      rintro j d δ μ2 hd ⟨⟨z6, z7, z8, rfl⟩, hm2⟩
      rw [hm2]
      obtain ⟨z, hz, rfl⟩ : ∃ z ∈ l, d = .str z := by
        have hd := List.mem_of_getElem? hd
        unfold strsD at hd
        obtain ⟨z, hz, e⟩ := List.mem_map.mp hd
        exact ⟨z, hz, e.symm⟩
      have hzl := hl z hz
      have du := F.due M z hzl
      have ne := ne_ans (μ := M) (F.is z)
      have fa := fun pl => hfa M z pl hzl hp
      have st : ∀ (pl : Dt) (q8 : Option Dt), b_law_good_3 [some (.int (w : Int)), some t, some nm, some (.ptr 0), some (.int (0 + (i : Int))), some (.ptr p), some (.str z), some (ans z), some pl] M = .nx [some (.int (w : Int)), some t, some nm, some (.ptr 0), some (.int (0 + (i : Int))), some (.ptr p), some (.str z), some (ans z), some pl] M := fun pl q8 => by
        have fa := fa pl
        generalize ans z = AA at *
        clear hfa hs hg F
        simp (disch := first | assumption | omega | (simp; done) | (simp; omega)) [oFld_ptr, oFld_exc, insAt, mMeth_ap, dctAt, oDGet_ptr, oDIn_ptr, stPut_ptr, O_no, sTry_ap, oCatN_pl, bAppend_ptr, srcZ_lp, srcL_ptr, oSl_ptr, oIx_ptr, lstAt,  bCount_dot, bSplit_dot, bRpart_dot, bLstrip_dot, bJoin_dot, bJoin_none, oIx_lst, oIx_tup, oIx_scr, oIx_str, oSl_str, srcR1_int, srcR2_int, cLen_str, oAdd_str, oAdd_lst, oEq_int, oNe_int, oEq_str, oNe_str, mDef_ap, if_no, cLenD_ptr, b_law_good_3_ap, hp, hf, hlk, fa, ne, -oNe_int, -oNe_str]
      refine ⟨[some (.int (w : Int)), some t, some nm, some (.ptr 0), some (.int (0 + (i : Int))), some (.ptr p), some (.str z), z7, z8], [some (.int (w : Int)), some t, some nm, some (.ptr 0), some (.int (0 + (i : Int))), some (.ptr p), some (.str z), some (ans z), some (.tup [.str "one"])], M, rfl, ?_, ⟨_, _, _, rfl⟩, rfl⟩
      rw [b_law_good_2_ap]
      refine seq_step (δ1 := [some (.int (w : Int)), some t, some nm, some (.ptr 0), some (.int (0 + (i : Int))), some (.ptr p), some (.str z), some (ans z), z8]) (μ1 := M) (by
        clear hfa hs hg F st fa
        simp (disch := first | assumption | omega | (simp; done) | (simp; omega)) [oFld_ptr, oFld_exc, insAt, mMeth_ap, dctAt, oDGet_ptr, oDIn_ptr, stPut_ptr, O_no, sTry_ap, oCatN_pl, bAppend_ptr, srcZ_lp, srcL_ptr, oSl_ptr, oIx_ptr, lstAt,  bCount_dot, bSplit_dot, bRpart_dot, bLstrip_dot, bJoin_dot, bJoin_none, oIx_lst, oIx_tup, oIx_scr, oIx_str, oSl_str, srcR1_int, srcR2_int, cLen_str, oAdd_str, oAdd_lst, oEq_int, oNe_int, oEq_str, oNe_str, mDef_ap, if_no, cLenD_ptr, du]) ?_
      have s1 := st (.tup []) none
      have s2 := st (.tup [.str "one"]) none
      generalize ans z = AA at *
      clear hfa hs hg F st fa
      simp at s1 s2
      simp (disch := first | assumption | omega | (simp; done) | (simp; omega)) [oFld_ptr, oFld_exc, insAt, mMeth_ap, dctAt, oDGet_ptr, oDIn_ptr, stPut_ptr, O_no, sTry_ap, oCatN_pl, bAppend_ptr, srcZ_lp, srcL_ptr, oSl_ptr, oIx_ptr, lstAt,  bCount_dot, bSplit_dot, bRpart_dot, bLstrip_dot, bJoin_dot, bJoin_none, oIx_lst, oIx_tup, oIx_scr, oIx_str, oSl_str, srcR1_int, srcR2_int, cLen_str, oAdd_str, oAdd_lst, oEq_int, oNe_int, oEq_str, oNe_str, mDef_ap, if_no, cLenD_ptr, forL, s1, s2])
    rw [hm3] at g3
    clear hm3
    refine ⟨[some (.int (w : Int)), some t, some nm, some (.ptr 0), some (.int (0 + (i : Int))), y5, y6, y7, y8], _, M, rfl, ?_, ⟨some (.int (0 + (i : Int))), some (.ptr p), z6, z7, z8, rfl⟩, ν ++ ν1, by rw [← hM, List.append_assoc]⟩
    rw [b_law_good_1_ap]
    rw [ik] at g3 ⊢
    clear hfa hs hg F
    refine seq_step (δ1 := [some (.int (w : Int)), some t, some nm, some (.ptr 0), some (.int (i : Int)), some (.ptr p), y6, y7, y8]) (μ1 := M) (by simp (disch := first | assumption | omega | (simp; done) | (simp; omega)) [oFld_ptr, oFld_exc, insAt, mMeth_ap, dctAt, oDGet_ptr, oDIn_ptr, stPut_ptr, O_no, sTry_ap, oCatN_pl, bAppend_ptr, srcZ_lp, srcL_ptr, oSl_ptr, oIx_ptr, lstAt,  bCount_dot, bSplit_dot, bRpart_dot, bLstrip_dot, bJoin_dot, bJoin_none, oIx_lst, oIx_tup, oIx_scr, oIx_str, oSl_str, srcR1_int, srcR2_int, cLen_str, oAdd_str, oAdd_lst, oEq_int, oNe_int, oEq_str, oNe_str, mDef_ap, if_no, cLenD_ptr, mk]) ?_
    refine seq_step (δ1 := [some (.int (w : Int)), some t, some nm, some (.ptr 0), some (.int (i : Int)), some (.ptr p), y6, y7, y8]) (μ1 := M) (by simp (disch := first | assumption | omega | (simp; done) | (simp; omega)) [oFld_ptr, oFld_exc, insAt, mMeth_ap, dctAt, oDGet_ptr, oDIn_ptr, stPut_ptr, O_no, sTry_ap, oCatN_pl, bAppend_ptr, srcZ_lp, srcL_ptr, oSl_ptr, oIx_ptr, lstAt,  bCount_dot, bSplit_dot, bRpart_dot, bLstrip_dot, bJoin_dot, bJoin_none, oIx_lst, oIx_tup, oIx_scr, oIx_str, oSl_str, srcR1_int, srcR2_int, cLen_str, oAdd_str, oAdd_lst, oEq_int, oNe_int, oEq_str, oNe_str, mDef_ap, if_no, cLenD_ptr, hw1, hw2, -oFld_ptr, -strsD_cons]) ?_
    simp (disch := first | assumption | omega | (simp; done) | (simp; omega)) [oFld_ptr, oFld_exc, insAt, mMeth_ap, dctAt, oDGet_ptr, oDIn_ptr, stPut_ptr, O_no, sTry_ap, oCatN_pl, bAppend_ptr, srcZ_lp, srcL_ptr, oSl_ptr, oIx_ptr, lstAt,  bCount_dot, bSplit_dot, bRpart_dot, bLstrip_dot, bJoin_dot, bJoin_none, oIx_lst, oIx_tup, oIx_scr, oIx_str, oSl_str, srcR1_int, srcR2_int, cLen_str, oAdd_str, oAdd_lst, oEq_int, oNe_int, oEq_str, oNe_str, mDef_ap, if_no, cLenD_ptr, hsrc, g3, -srcL_ptr, -srcL_lst])
  obtain ⟨y4, y5, y6, y7, y8, rfl⟩ := ‹∃ y4 y5 y6 y7 y8, δ' = _›
  refine ⟨ν, ?_⟩
  unfold m_law_good
  clear F hs hg
  simp (disch := first | assumption | omega | (simp; done) | (simp; omega)) [oFld_ptr, oFld_exc, insAt, mMeth_ap, dctAt, oDGet_ptr, oDIn_ptr, stPut_ptr, O_no, sTry_ap, oCatN_pl, bAppend_ptr, srcZ_lp, srcL_ptr, oSl_ptr, oIx_ptr, lstAt,  bCount_dot, bSplit_dot, bRpart_dot, bLstrip_dot, bJoin_dot, bJoin_none, oIx_lst, oIx_tup, oIx_scr, oIx_str, oSl_str, srcR1_int, srcR2_int, cLen_str, oAdd_str, oAdd_lst, oEq_int, oNe_int, oEq_str, oNe_str, mDef_ap, if_no, cLenD_ptr, g8]
end

/-! law k18: the finders that are made -/
theorem tab_find : tblC [(18, m_Built_find), (19, m_Other_find), (20, m_Barred_find)] 18 = some m_Built_find ∧ tblC [(18, m_Built_find), (19, m_Other_find), (20, m_Barred_find)] 19 = some m_Other_find ∧ tblC [(18, m_Built_find), (19, m_Other_find), (20, m_Barred_find)] 20 = some m_Barred_find := ⟨rfl, rfl, rfl⟩
theorem fd_built {l : List (Str × Str)} (hl : l.length ≤ 1000) (h1 : ∀ q ∈ l, nameS q.1 = true ∧ q.2.length ≤ 1000) : Fd 0 (bodsD l) (ansB l) where
  mak := fun μ k hk => by
    have ok1 : okQ (bodsD l) = true := by
      show ((l.map prD).all okP && (l.map prD).all okT) = true
      rw [Bool.and_eq_true, List.all_map, List.all_map, List.all_eq_true, List.all_eq_true]
      refine ⟨fun q hq => ?_, fun q hq => rfl⟩
      have a := name_len (h1 q hq).1
      have b := (h1 q hq).2
      show ([Dt.str q.1, .str q.2].all okT) = true
      simp only [List.all_cons, List.all_nil, Bool.and_true, Bool.and_eq_true]
      exact ⟨decide_eq_true (show q.1.length ≤ 100000 by omega), decide_eq_true (show q.2.length ≤ 100000 by omega)⟩
    have bd : builtD (bodsD l) = true := by
      show ((l.map prD).all bodyD) = true
      rw [List.all_map, List.all_eq_true]
      intro q hq
      show (nameS q.1 && true) = true
      rw [(h1 q hq).1]
      rfl
    have e1 := e_built (p := μ.length) (μ := μ ++ [.ins 18 []]) ok1 (by simp)
    rw [bd] at e1
    simp only [if_true, set_add0, List.set_cons_zero] at e1
    have e2 := e_built (p := μ.length + 1) (μ := μ ++ [.ins 18 [("word", .str "built"), ("built", bodsD l)], .ins 18 []]) ok1 (by simp)
    rw [bd] at e2
    simp only [if_true, set_add, List.set_cons_succ, List.set_cons_zero] at e2
    have at0 : L2.atI [Dt.ptr μ.length, .ptr (μ.length + 1)] (k : Int) = some (.ptr (μ.length + k)) := by
      rcases k with _ | _ | k
      · rfl
      · rfl
      · omega
    refine ⟨μ.length + k, [.ins 18 [("word", .str "built"), ("built", bodsD l)], .ins 18 [("word", .str "built"), ("built", bodsD l)]], ?_, 18, [("word", .str "built"), ("built", bodsD l)], ?_, rfl, ⟨m_Built_find, tab_find.1, fun M z pl _ hp => find_b hp⟩, "built", ?_, rfl⟩
    · generalize bodsD l = BB at *
      unfold m_law_made
      simp (disch := first | assumption | omega | (simp; done) | (simp; omega)) [oFld_ptr, oFld_exc, insAt, mMeth_ap, dctAt, oDGet_ptr, oDIn_ptr, stPut_ptr, O_no, sTry_ap, oCatN_pl, bAppend_ptr, srcZ_lp, srcL_ptr, oSl_ptr, oIx_ptr, lstAt,  bCount_dot, bSplit_dot, bRpart_dot, bLstrip_dot, bJoin_dot, bJoin_none, oIx_lst, oIx_tup, oIx_scr, oIx_str, oSl_str, srcR1_int, srcR2_int, cLen_str, oAdd_str, oAdd_lst, oEq_int, oNe_int, oEq_str, oNe_str, mDef_ap, if_no, cLenD_ptr, e1, e2, at0]
    · rw [at_add]
      rcases k with _ | _ | k
      · rfl
      · rfl
      · omega
    · rw [oFld_ptr]
      have ea : (μ ++ [MO.ins 18 [("word", .str "built"), ("built", bodsD l)], .ins 18 [("word", .str "built"), ("built", bodsD l)]])[μ.length + k]? = some (.ins 18 [("word", .str "built"), ("built", bodsD l)]) := by
        rw [at_add]
        rcases k with _ | _ | k
        · rfl
        · rfl
        · omega
      have e : List.lookup (Str.ofString "word") [(Str.ofString "word", Dt.str "built"), (Str.ofString "built", bodsD l)] = some (.str "built") := rfl
      simp only [insAt, ea, nf_w18, if_true, e]
      rfl
  due := fun μ z _ => due_b hl
  is := fun z => ans_b
theorem fd_other {o w : Str} (ho : nameS o = true) (hw : nameS w = true) : Fd 1 (.tup [.str o, .str w]) (ansO o w) where
  mak := fun μ k hk => by
    have lo := name_len ho
    have lw := name_len hw
    have ok1 : okT (.str o) = true := decide_eq_true (show o.length ≤ 100000 by omega)
    have ok2 : okT (.str w) = true := decide_eq_true (show w.length ≤ 100000 by omega)
    have bd : (isNameD (.str o) && isNameD (.str w)) = true := by
      show (nameS o && nameS w) = true
      rw [ho, hw]
      rfl
    have e1 := e_other (p := μ.length) (μ := μ ++ [.ins 19 []]) ok1 ok2 (by simp)
    rw [bd] at e1
    simp only [if_true, set_add0, List.set_cons_zero] at e1
    have e2 := e_other (p := μ.length + 1) (μ := μ ++ [.ins 19 [("word", .str "other"), ("old", .str o), ("new", .str w)], .ins 19 []]) ok1 ok2 (by simp)
    rw [bd] at e2
    simp only [if_true, set_add, List.set_cons_succ, List.set_cons_zero] at e2
    have at0 : L2.atI [Dt.ptr μ.length, .ptr (μ.length + 1)] (k : Int) = some (.ptr (μ.length + k)) := by
      rcases k with _ | _ | k
      · rfl
      · rfl
      · omega
    have x0 : L2.atI [Dt.str o, .str w] 0 = some (.str o) := rfl
    have x1 : L2.atI [Dt.str o, .str w] 1 = some (.str w) := rfl
    refine ⟨μ.length + k, [.ins 19 [("word", .str "other"), ("old", .str o), ("new", .str w)], .ins 19 [("word", .str "other"), ("old", .str o), ("new", .str w)]], ?_, 19, [("word", .str "other"), ("old", .str o), ("new", .str w)], ?_, rfl, ⟨m_Other_find, tab_find.2.1, fun M z pl hz hp => find_o hp (by omega) (by omega) hz⟩, "other", ?_, rfl⟩
    · unfold m_law_made
      simp (disch := first | assumption | omega | (simp; done) | (simp; omega)) [oFld_ptr, oFld_exc, insAt, mMeth_ap, dctAt, oDGet_ptr, oDIn_ptr, stPut_ptr, O_no, sTry_ap, oCatN_pl, bAppend_ptr, srcZ_lp, srcL_ptr, oSl_ptr, oIx_ptr, lstAt,  bCount_dot, bSplit_dot, bRpart_dot, bLstrip_dot, bJoin_dot, bJoin_none, oIx_lst, oIx_tup, oIx_scr, oIx_str, oSl_str, srcR1_int, srcR2_int, cLen_str, oAdd_str, oAdd_lst, oEq_int, oNe_int, oEq_str, oNe_str, mDef_ap, if_no, cLenD_ptr, e1, e2, at0, x0, x1, -strsD_cons]
    · rw [at_add]
      rcases k with _ | _ | k
      · rfl
      · rfl
      · omega
    · rw [oFld_ptr]
      have ea : (μ ++ [MO.ins 19 [("word", .str "other"), ("old", .str o), ("new", .str w)], .ins 19 [("word", .str "other"), ("old", .str o), ("new", .str w)]])[μ.length + k]? = some (.ins 19 [("word", .str "other"), ("old", .str o), ("new", .str w)]) := by
        rw [at_add]
        rcases k with _ | _ | k
        · rfl
        · rfl
        · omega
      have e : List.lookup (Str.ofString "word") [(Str.ofString "word", Dt.str "other"), (Str.ofString "old", .str o), (Str.ofString "new", .str w)] = some (.str "other") := rfl
      simp only [insAt, ea, nf_w19, if_true, e]
      rfl
  due := fun μ z hz => due_o (by have := name_len ho; omega) (by have := name_len hw; omega) hz
  is := fun z => ans_o
theorem fd_barred {l : List Str} (hl : l.length ≤ 1000) (h1 : ∀ q ∈ l, nameS q = true) : Fd 2 (.tup (strsD l)) (ansR l) where
  mak := fun μ k hk => by
    have ok1 : okP (.tup (strsD l)) = true := by
      show ((strsD l).all okT) = true
      unfold strsD
      rw [List.all_map, List.all_eq_true]
      intro q hq
      have := name_len (h1 q hq)
      exact decide_eq_true (show q.length ≤ 100000 by omega)
    have bd : barD (.tup (strsD l)) = true := by
      show ((strsD l).all isNameD) = true
      unfold strsD
      rw [List.all_map, List.all_eq_true]
      exact h1
    have hlen : ∀ x, Dt.tup (strsD l) = .tup x → x.length ≤ 1000000 := fun x hx => by
      cases hx
      rw [strsD_len]
      omega
    have e1 := e_barred (p := μ.length) (μ := μ ++ [.ins 20 []]) ok1 hlen (by simp)
    rw [bd] at e1
    simp only [if_true, set_add0, List.set_cons_zero] at e1
    have e2 := e_barred (p := μ.length + 1) (μ := μ ++ [.ins 20 [("word", .str "barred"), ("barred", .tup (strsD l))], .ins 20 []]) ok1 hlen (by simp)
    rw [bd] at e2
    simp only [if_true, set_add, List.set_cons_succ, List.set_cons_zero] at e2
    have at0 : L2.atI [Dt.ptr μ.length, .ptr (μ.length + 1)] (k : Int) = some (.ptr (μ.length + k)) := by
      rcases k with _ | _ | k
      · rfl
      · rfl
      · omega
    refine ⟨μ.length + k, [.ins 20 [("word", .str "barred"), ("barred", .tup (strsD l))], .ins 20 [("word", .str "barred"), ("barred", .tup (strsD l))]], ?_, 20, [("word", .str "barred"), ("barred", .tup (strsD l))], ?_, rfl, ⟨m_Barred_find, tab_find.2.2, fun M z pl _ hp => find_r hp⟩, "barred", ?_, rfl⟩
    · generalize Dt.tup (strsD l) = BB at *
      unfold m_law_made
      simp (disch := first | assumption | omega | (simp; done) | (simp; omega)) [oFld_ptr, oFld_exc, insAt, mMeth_ap, dctAt, oDGet_ptr, oDIn_ptr, stPut_ptr, O_no, sTry_ap, oCatN_pl, bAppend_ptr, srcZ_lp, srcL_ptr, oSl_ptr, oIx_ptr, lstAt,  bCount_dot, bSplit_dot, bRpart_dot, bLstrip_dot, bJoin_dot, bJoin_none, oIx_lst, oIx_tup, oIx_scr, oIx_str, oSl_str, srcR1_int, srcR2_int, cLen_str, oAdd_str, oAdd_lst, oEq_int, oNe_int, oEq_str, oNe_str, mDef_ap, if_no, cLenD_ptr, e1, e2, at0]
    · rw [at_add]
      rcases k with _ | _ | k
      · rfl
      · rfl
      · omega
    · rw [oFld_ptr]
      have ea : (μ ++ [MO.ins 20 [("word", .str "barred"), ("barred", .tup (strsD l))], .ins 20 [("word", .str "barred"), ("barred", .tup (strsD l))]])[μ.length + k]? = some (.ins 20 [("word", .str "barred"), ("barred", .tup (strsD l))]) := by
        rw [at_add]
        rcases k with _ | _ | k
        · rfl
        · rfl
        · omega
      have e : List.lookup (Str.ofString "word") [(Str.ofString "word", Dt.str "barred"), (Str.ofString "barred", .tup (strsD l))] = some (.str "barred") := rfl
      simp only [insAt, ea, nf_w20, if_true, e]
      rfl
  due := fun μ z _ => due_r
  is := fun z => ans_r

/-! law k18: the turn, the law -/
def textsD : List Str := ["", "set a 1", "set a 2", "set b 1", "note 7", "set", "x y", "load a",
  "set a 1\nnote a",
  "fail now",
  "set a 12"]
theorem texts_len : ∀ s ∈ textsD, s.length ≤ 100 := by decide +kernel
def textF (N : Int) : Str := textsD.getD (N.fmod 11).toNat ""
theorem textF_at (N : Int) : L2.atI (strsD textsD) (N.fmod 11) = some (.str (textF N)) ∧ textF N ∈ textsD := by
  have b1 := fmod_lt (a := N) (b := 11) (by decide)
  have hn : (N.fmod 11).toNat < textsD.length := by
    have : textsD.length = 11 := rfl
    omega
  have e0 : ((N.fmod 11).toNat : Int) = N.fmod 11 := by omega
  have e1 : textF N = textsD[(N.fmod 11).toNat] := by
    unfold textF
    rw [List.getD_eq_getElem?_getD, List.getElem?_eq_getElem hn]
    rfl
  have := atI_nat (xs := strsD textsD) (j := (N.fmod 11).toNat) (v := .str (textF N)) (by rw [strsD, List.getElem?_map, List.getElem?_eq_getElem hn, e1]; rfl)
  rw [e0] at this
  exact ⟨this, by rw [e1]; exact List.getElem_mem hn⟩
theorem e_text {μ : Mem} {P : Nat} {n : Int} (h : μ[P]? = some (.lst [.int n])) : m_law_text_drawn [.ptr P] μ = .ok (.str (textF n)) (μ.set P (.lst [.int (n.fdiv 11)])) := by
  have t1 := e_take h (k := 11) (by decide) (by decide)
  have e := (textF_at n).1
  unfold m_law_text_drawn
  simp only [textsD, strsD, List.map_cons, List.map_nil] at e
  generalize textF n = T at e ⊢
  simp (disch := first | assumption | omega | (simp; done) | (simp; omega)) [oFld_ptr, oFld_exc, insAt, mMeth_ap, dctAt, oDGet_ptr, oDIn_ptr, stPut_ptr, O_no, sTry_ap, oCatN_pl, bAppend_ptr, srcZ_lp, srcL_ptr, oSl_ptr, oIx_ptr, lstAt,  bCount_dot, bSplit_dot, bRpart_dot, bLstrip_dot, bJoin_dot, bJoin_none, oIx_lst, oIx_tup, oIx_scr, oIx_str, oSl_str, srcR1_int, srcR2_int, cLen_str, oAdd_str, oAdd_lst, oEq_int, oNe_int, oEq_str, oNe_str, mDef_ap, if_no, cLenD_ptr, t1, e]
def sevenL : List Str := ["a", "b", "a.b", "ab", "a.b.ab", "zz", "aa.b"]
theorem seven_ok : ∀ z ∈ sevenL, nameS z = true := by decide +kernel
def pick (l : List Str) (N : Int) : Str := l.getD (N.fmod 9).toNat ""
theorem pick_at {l x : List Str} {N : Int} (h : l.length = 9) : L2.atI (strsD (l ++ x)) (N.fmod 9) = some (.str (pick l N)) ∧ pick l N ∈ l := by
  have b1 := fmod_lt (a := N) (b := 9) (by decide)
  have hn : (N.fmod 9).toNat < l.length := by omega
  have e0 : ((N.fmod 9).toNat : Int) = N.fmod 9 := by omega
  have e1 : pick l N = l[(N.fmod 9).toNat] := by
    unfold pick
    rw [List.getD_eq_getElem?_getD, List.getElem?_eq_getElem hn]
    rfl
  have := atI_nat (xs := strsD (l ++ x)) (j := (N.fmod 9).toNat) (v := .str (pick l N)) (by rw [strsD, List.getElem?_map, List.getElem?_append_left hn, List.getElem?_eq_getElem hn, e1]; rfl)
  rw [e0] at this
  exact ⟨this, by rw [e1]; exact List.getElem_mem hn⟩
def W18 (B : Mem) (N : Int) (nm : List Str) (bd : List Dt) (ν : Mem) : Mem := B ++ (.lst [.int N] :: .lst (strsD sevenL) :: .lst (strsD nm) :: .lst bd :: ν)
section
variable {B ν ξ : Mem} {N N' : Int} {nm nm' : List Str} {bd bd' : List Dt}
theorem w_pile : (W18 B N nm bd ν)[B.length]? = some (.lst [.int N]) := by simp [W18]
theorem w_pile_set : (W18 B N nm bd ν).set B.length (.lst [.int N']) = W18 B N' nm bd ν := by simp [W18]
theorem w_nm : (W18 B N nm bd ν)[B.length + 2]? = some (.lst (strsD nm)) := by simp [W18]
theorem w_nm_set : (W18 B N nm bd ν).set (B.length + 2) (.lst (strsD nm')) = W18 B N nm' bd ν := by simp [W18]
theorem w_bd : (W18 B N nm bd ν)[B.length + 3]? = some (.lst bd) := by simp [W18]
theorem w_bd_set : (W18 B N nm bd ν).set (B.length + 3) (.lst bd') = W18 B N nm bd' ν := by simp [W18]
theorem w_app : W18 B N nm bd ν ++ ξ = W18 B N nm bd (ν ++ ξ) := by simp [W18]
theorem w_hi (h : HI B) : HI (W18 B N nm bd ν) := h.app
theorem w_take {k : Int} (hk : 0 < k) (hk2 : k.natAbs < 1073741824) : m_law_take [.ptr B.length, .int k] (W18 B N nm bd ν) = .ok (.int (N.fmod k)) (W18 B (N.fdiv k) nm bd ν) := by
  rw [e_take w_pile hk hk2, w_pile_set]
theorem w_text : m_law_text_drawn [.ptr B.length] (W18 B N nm bd ν) = .ok (.str (textF N)) (W18 B (N.fdiv 11) nm bd ν) := by
  rw [e_text w_pile, w_pile_set]
theorem w_ix (i : Int) : oIx (.ptr (B.length + 2)) (.int i) (W18 B N nm bd ν) = optR (L2.atI (strsD nm) i) (W18 B N nm bd ν) := by
  rw [oIx_ptr]
  have : lstAt (W18 B N nm bd ν) (B.length + 2) = some (strsD nm) := by
    unfold lstAt
    rw [w_nm]
  rw [this]
  rfl
def GoodB (l : List (Str × Str)) : Prop := ∀ q ∈ l, nameS q.1 = true ∧ q.2.length ≤ 1000
theorem e_bodies {ns : List Int} {k : Nat} {l9 : List Str} (h9 : l9.length = 9) (hn : ∀ z ∈ l9, nameS z = true) {q : Nat} (hq : q ≤ 10) {e6 e7 e8 e9 : Option Dt} : ∃ y6 N' bs, forL (gSet 6) b_law_2 none (rngD 0 q) [some (.scr (ns.map Dt.int)), some (.ptr 0), some (.int (k : Int)), some (.ptr B.length), some (.ptr (B.length + 2)), some (.ptr (B.length + 3)), e6, e7, e8, e9] (W18 B N l9 [] ν) = .nx [some (.scr (ns.map Dt.int)), some (.ptr 0), some (.int (k : Int)), some (.ptr B.length), some (.ptr (B.length + 2)), some (.ptr (B.length + 3)), y6, e7, e8, e9] (W18 B N' l9 (bs.map prD) ν) ∧ GoodB bs ∧ bs.length ≤ q := by
  obtain ⟨δ', μ', g, ⟨y6, rfl⟩, N', bs, rfl, gb, lb⟩ := forL_run (fun i δ' μ' => (∃ y6, δ' = [some (.scr (ns.map Dt.int)), some (.ptr 0), some (.int (k : Int)), some (.ptr B.length), some (.ptr (B.length + 2)), some (.ptr (B.length + 3)), y6, e7, e8, e9]) ∧ ∃ N' bs, μ' = W18 B N' l9 (bs.map prD) ν ∧ GoodB bs ∧ bs.length = i) (tg := gSet 6) (body := b_law_2) (ds := rngD 0 q) (δ := [some (.scr (ns.map Dt.int)), some (.ptr 0), some (.int (k : Int)), some (.ptr B.length), some (.ptr (B.length + 2)), some (.ptr (B.length + 3)), e6, e7, e8, e9]) (μ := W18 B N l9 [] ν) ⟨⟨_, rfl⟩, N, [], rfl, fun q hq => (nomatch hq), rfl⟩ (by
    rintro i d δ μ2 hd ⟨⟨y6, rfl⟩, M, bs, rfl, gb, lb⟩
    obtain ⟨rfl, hi⟩ := rng_at hd
    have t1 := w_take (B := B) (N := M) (nm := l9) (bd := bs.map prD) (ν := ν) (k := 9) (by decide) (by decide)
    obtain ⟨p1, p2⟩ := pick_at (l := l9) (x := []) (N := M) h9
    rw [List.append_nil] at p1
    have ix := w_ix (B := B) (N := M.fdiv 9) (nm := l9) (bd := bs.map prD) (ν := ν) (M.fmod 9)
    rw [p1] at ix
    have t2 := w_text (B := B) (N := M.fdiv 9) (nm := l9) (bd := bs.map prD) (ν := ν)
    have tt := texts_len _ (textF_at (M.fdiv 9)).2
    generalize textF (M.fdiv 9) = T at *
    have ty : tyM "list" (.ptr (B.length + 3)) (W18 B M l9 (bs.map prD) ν) = true := by rw [tyM_ptr, w_bd]; rfl
    have ap : bAppend (.ptr (B.length + 3)) [.tup [.str (pick l9 M), .str T]] (W18 B ((M.fdiv 9).fdiv 11) l9 (bs.map prD) ν) = .ok .non (W18 B ((M.fdiv 9).fdiv 11) l9 ((bs ++ [(pick l9 M, T)]).map prD) ν) := by
      rw [bAppend_ptr]
      have : lstAt (W18 B ((M.fdiv 9).fdiv 11) l9 (bs.map prD) ν) (B.length + 3) = some (bs.map prD) := by
        unfold lstAt
        rw [w_bd]
      rw [this]
      have hl : (bs.map prD).length ≤ 1000000 := by rw [List.length_map]; omega
      simp only [hl, if_true, w_bd_set, List.map_append]
      rfl
    refine ⟨_, _, _, rfl, ?_, ⟨some (.int (0 + (i : Int))), rfl⟩, (M.fdiv 9).fdiv 11, bs ++ [(pick l9 M, T)], rfl, fun q hq => ?_, by rw [List.length_append, lb]; rfl⟩
    · generalize W18 B M l9 (bs.map prD) ν = M1 at *
      generalize W18 B (M.fdiv 9) l9 (bs.map prD) ν = M2 at *
      generalize W18 B ((M.fdiv 9).fdiv 11) l9 (bs.map prD) ν = M3 at *
      generalize W18 B ((M.fdiv 9).fdiv 11) l9 ((bs ++ [(pick l9 M, T)]).map prD) ν = M4 at *
      generalize pick l9 M = PP at *
      simp (disch := first | assumption | omega | (simp; done) | (simp; omega)) [oFld_ptr, oFld_exc, insAt, mMeth_ap, dctAt, oDGet_ptr, oDIn_ptr, stPut_ptr, O_no, sTry_ap, oCatN_pl, bAppend_ptr, srcZ_lp, srcL_ptr, oSl_ptr, oIx_ptr, lstAt,  bCount_dot, bSplit_dot, bRpart_dot, bLstrip_dot, bJoin_dot, bJoin_none, oIx_lst, oIx_tup, oIx_scr, oIx_str, oSl_str, srcR1_int, srcR2_int, cLen_str, oAdd_str, oAdd_lst, oEq_int, oNe_int, oEq_str, oNe_str, mDef_ap, if_no, cLenD_ptr, b_law_2_ap, ty, t1, ix, t2, ap, -tyM_ptr, -bAppend_ptr, -oIx_ptr, -strsD_cons]
    · rcases List.mem_append.mp hq with hq | hq
      · exact gb q hq
      · rw [List.mem_singleton.mp hq]
        exact ⟨hn _ p2, by show T.length ≤ 1000; omega⟩)
  rw [show (rngD 0 q).length = q from by simp] at lb
  exact ⟨y6, N', bs, g, gb, by omega⟩
end

/-! law k18: a cell, the law -/
section
variable {B : Mem} {ns : List Int}
theorem name_1000 {z : Str} (h : nameS z = true) : z.length ≤ 1000 := by have := name_len h; omega
theorem add_q {z : Str} {μ : Mem} (h : z.length ≤ 1000) : oAdd (.str z) (.str (Str.ofString ".q")) μ = .ok (.str (z ++ Str.ofString ".q")) μ := oAdd_str (by have : (Str.ofString ".q").length = 2 := rfl; omega)
theorem len_q {z : Str} (h : nameS z = true) : (z ++ Str.ofString ".q").length ≤ 1000 := by
  have := name_len h
  rw [add_len]
  have : (Str.ofString ".q").length = 2 := rfl
  omega
theorem e_turn18 {k : Nat} (hk : k < 4) (hi : HI B) {e3 e4 e5 e6 e7 e8 e9 : Option Dt} :
    ∃ ν y3 y4 y5 y6 y7 y8 y9, b_law_1 [some (.scr (ns.map Dt.int)), some (.ptr 0), some (.int (k : Int)), e3, e4, e5, e6, e7, e8, e9] B = .nx [some (.scr (ns.map Dt.int)), some (.ptr 0), some (.int (k : Int)), y3, y4, y5, y6, y7, y8, y9] (B ++ ν) := by
  have hc := e_cell (μ := B) (ns := ns) (k := (k : Int)) (by omega) (by omega)
  generalize cellF ns (k : Int) = N at hc
  -- the names
  have p1 : (B ++ [MO.lst [.int N], .lst (strsD sevenL)])[B.length]? = some (.lst [.int N]) := by simp
  have t1 := e_name p1 (most := 3) (by decide) (by decide)
  have n1 := nameF_ok (most := 3) (n := N) (by decide) (by decide)
  have s1 : (B ++ [MO.lst [.int N], .lst (strsD sevenL)]).set B.length (.lst [.int (nameF 3 N).2]) = B ++ [MO.lst [.int (nameF 3 N).2], .lst (strsD sevenL)] := by simp
  rw [s1] at t1
  generalize (nameF 3 N).2 = N1 at t1
  generalize (nameF 3 N).1 = z1 at t1 n1
  have p2 : (B ++ [MO.lst [.int N1], .lst (strsD sevenL)])[B.length]? = some (.lst [.int N1]) := by simp
  have t2 := e_name p2 (most := 2) (by decide) (by decide)
  have n2 := nameF_ok (most := 2) (n := N1) (by decide) (by decide)
  have s2 : (B ++ [MO.lst [.int N1], .lst (strsD sevenL)]).set B.length (.lst [.int (nameF 2 N1).2]) = B ++ [MO.lst [.int (nameF 2 N1).2], .lst (strsD sevenL)] := by simp
  rw [s2] at t2
  generalize (nameF 2 N1).2 = N2 at t2
  generalize (nameF 2 N1).1 = z2 at t2 n2
  have l9h : (sevenL ++ [z1, z2]).length = 9 := rfl
  have okn : ∀ z ∈ sevenL ++ [z1, z2], nameS z = true := fun z hz => by
    rcases List.mem_append.mp hz with hz | hz
    · exact seven_ok z hz
    · rcases List.mem_cons.mp hz with rfl | hz
      · exact n1
      · rw [List.mem_singleton.mp hz]
        exact n2
  have cat : oCatN (.ptr (B.length + 1)) (.lst [.str z1, .str z2]) (B ++ [MO.lst [.int N2], .lst (strsD sevenL)]) = .ok (.ptr (B.length + 2)) (B ++ [MO.lst [.int N2], .lst (strsD sevenL), .lst (strsD (sevenL ++ [z1, z2]))]) := by
    rw [oCatN_pl]
    have : lstAt (B ++ [MO.lst [.int N2], .lst (strsD sevenL)]) (B.length + 1) = some (strsD sevenL) := by simp [lstAt]
    rw [this]
    have e : strsD sevenL ++ [Dt.str z1, .str z2] = strsD (sevenL ++ [z1, z2]) := by simp [strsD]
    have hl : (strsD sevenL).length + [Dt.str z1, .str z2].length ≤ 1000000 := by rw [strsD_len]; exact (show 7 + 2 ≤ 1000000 by decide)
    simp only [hl, if_true, e]
    simp
  have w0 : B ++ [MO.lst [.int N2], .lst (strsD sevenL), .lst (strsD (sevenL ++ [z1, z2])), .lst []] = W18 B N2 (sevenL ++ [z1, z2]) [] [] := rfl
  generalize sevenL ++ [z1, z2] = l9 at *
  -- the bodies
  have t3 := w_take (B := B) (N := N2) (nm := l9) (bd := []) (ν := []) (k := 5) (by decide) (by decide)
  have b3 := fmod_lt (a := N2) (b := 5) (by decide)
  obtain ⟨q, hq⟩ : ∃ q : Nat, N2.fmod 5 = (q : Int) := ⟨(N2.fmod 5).toNat, by omega⟩
  obtain ⟨y6, N3, bs, g4, gb, lb⟩ := e_bodies (B := B) (ν := []) (N := N2.fdiv 5) (ns := ns) (k := k) (q := q) l9h okn (by omega) (e6 := e6) (e7 := e7) (e8 := e8) (e9 := e9)
  -- the old one
  have t5 := w_take (B := B) (N := N3) (nm := l9) (bd := bs.map prD) (ν := []) (k := 9) (by decide) (by decide)
  have ix5 := w_ix (B := B) (N := N3.fdiv 9) (nm := l9) (bd := bs.map prD) (ν := []) (N3.fmod 9)
  obtain ⟨p5, m5⟩ := pick_at (l := l9) (x := []) (N := N3) l9h
  rw [List.append_nil] at p5
  rw [p5] at ix5
  have okO := okn _ m5
  generalize pick l9 N3 = o at *
  generalize N3.fdiv 9 = N4 at *
  have aq := fun μ : Mem => add_q (μ := μ) (name_1000 okO)
  have ty6 : tyM "list" (.ptr (B.length + 2)) (W18 B N4 l9 (bs.map prD) []) = true := by rw [tyM_ptr, w_nm]; rfl
  have ap6 : bAppend (.ptr (B.length + 2)) [.str (o ++ Str.ofString ".q")] (W18 B N4 l9 (bs.map prD) []) = .ok .non (W18 B N4 (l9 ++ [o ++ Str.ofString ".q"]) (bs.map prD) []) := by
    rw [bAppend_ptr]
    have : lstAt (W18 B N4 l9 (bs.map prD) []) (B.length + 2) = some (strsD l9) := by
      unfold lstAt
      rw [w_nm]
    rw [this]
    have hl : (strsD l9).length ≤ 1000000 := by rw [strsD_len]; omega
    have e : strsD l9 ++ [Dt.str (o ++ Str.ofString ".q")] = strsD (l9 ++ [o ++ Str.ofString ".q"]) := by simp [strsD]
    simp only [hl, if_true, e, w_nm_set]
  -- asked of the built one
  have len10 : ∀ z ∈ l9 ++ [o ++ Str.ofString ".q"], z.length ≤ 1000 := fun z hz => by
    rcases List.mem_append.mp hz with hz | hz
    · exact name_1000 (okn z hz)
    · rw [List.mem_singleton.mp hz]
      exact len_q okO
  obtain ⟨ν1, g7⟩ := good_loop (μ := W18 B N4 (l9 ++ [o ++ Str.ofString ".q"]) (bs.map prD) []) (nm := .ptr (B.length + 2)) (l := l9 ++ [o ++ Str.ofString ".q"]) (gd := some (B.length + 2, .lst (strsD (l9 ++ [o ++ Str.ofString ".q"])))) (fd_built (l := bs) (by omega) gb) len10 (fun ν => by
    rw [w_app, srcL_ptr]
    have : lstAt (W18 B N4 (l9 ++ [o ++ Str.ofString ".q"]) (bs.map prD) ([] ++ ν)) (B.length + 2) = some (strsD (l9 ++ [o ++ Str.ofString ".q"])) := by
      unfold lstAt
      rw [w_nm]
    rw [this]) (fun ν => by rw [w_app, okG_some]; exact w_nm)
  rw [w_app] at g7
  have g7 : m_law_good [.int 0, _, _, _] _ = _ := g7
  have tb : cTup [.ptr (B.length + 3)] (W18 B N4 (l9 ++ [o ++ Str.ofString ".q"]) (bs.map prD) []) = .ok (bodsD bs) (W18 B N4 (l9 ++ [o ++ Str.ofString ".q"]) (bs.map prD) []) := by
    have : lstAt (W18 B N4 (l9 ++ [o ++ Str.ofString ".q"]) (bs.map prD) []) (B.length + 3) = some (bs.map prD) := by
      unfold lstAt
      rw [w_bd]
    simp only [cTup, asL_ptr, this]
    rfl
  generalize hl10 : l9 ++ [o ++ Str.ofString ".q"] = l10 at *
  generalize [] ++ ν1 = ν2 at *
  -- of the other one
  have t8 := w_take (B := B) (N := N4) (nm := l10) (bd := bs.map prD) (ν := ν2) (k := 9) (by decide) (by decide)
  have ix8 := w_ix (B := B) (N := N4.fdiv 9) (nm := l10) (bd := bs.map prD) (ν := ν2) (N4.fmod 9)
  obtain ⟨p8, m8⟩ := pick_at (l := l9) (x := [o ++ Str.ofString ".q"]) (N := N4) l9h
  rw [hl10] at p8
  rw [p8] at ix8
  have okW := okn _ m8
  generalize pick l9 N4 = w at *
  generalize N4.fdiv 9 = N5 at *
  have sl9 : oSl (.ptr (B.length + 2)) none (some 7) (W18 B N5 l10 (bs.map prD) ν2) = .ok (.lst (strsD (l10.take 7))) (W18 B N5 l10 (bs.map prD) ν2) := by
    rw [oSl_ptr]
    have : lstAt (W18 B N5 l10 (bs.map prD) ν2) (B.length + 2) = some (strsD l10) := by
      unfold lstAt
      rw [w_nm]
    rw [this]
    have := cutD_take (strsD l10) 7
    have e2 : (strsD l10).take 7 = strsD (l10.take 7) := by simp [strsD]
    rw [← e2, ← this]
    rfl
  have ad9 : oAdd (.lst (strsD (l10.take 7))) (.lst [.str o, .str (o ++ Str.ofString ".q"), .str (Str.ofString "q")]) (W18 B N5 l10 (bs.map prD) ν2) = .ok (.lst (strsD (l10.take 7 ++ [o, o ++ Str.ofString ".q", Str.ofString "q"]))) (W18 B N5 l10 (bs.map prD) ν2) := by
    have e : [Dt.str o, .str (o ++ Str.ofString ".q"), .str (Str.ofString "q")] = strsD [o, o ++ Str.ofString ".q", Str.ofString "q"] := by simp [strsD]
    rw [e, oAdd_lst (by rw [strsD_len, strsD_len, List.length_take, List.length_cons, List.length_cons, List.length_cons, List.length_nil]; omega)]
    simp
  obtain ⟨ν3, g9⟩ := good_loop (μ := W18 B N5 l10 (bs.map prD) ν2) (nm := .lst (strsD (l10.take 7 ++ [o, o ++ Str.ofString ".q", Str.ofString "q"]))) (l := l10.take 7 ++ [o, o ++ Str.ofString ".q", Str.ofString "q"]) (gd := none) (fd_other okO okW) (fun z hz => by
    rcases List.mem_append.mp hz with hz | hz
    · exact len10 z (List.mem_of_mem_take hz)
    · rcases List.mem_cons.mp hz with rfl | hz
      · exact name_1000 okO
      · rcases List.mem_cons.mp hz with rfl | hz
        · exact len_q okO
        · rw [List.mem_singleton.mp hz]
          decide +kernel) (fun ν => rfl) (fun ν => by simp)
  rw [w_app] at g9
  have g9 : m_law_good [.int 1, _, _, _] _ = _ := g9
  generalize strsD (l10.take 7 ++ [o, o ++ Str.ofString ".q", Str.ofString "q"]) = LL9 at *
  generalize ν2 ++ ν3 = ν4 at *
  -- of the barred one
  have ta := w_take (B := B) (N := N5) (nm := l10) (bd := bs.map prD) (ν := ν4) (k := 4) (by decide) (by decide)
  have ba := fmod_lt (a := N5) (b := 4) (by decide)
  obtain ⟨qa, hqa⟩ : ∃ q : Nat, N5.fmod 4 = (q : Int) := ⟨(N5.fmod 4).toNat, by omega⟩
  have lc := lcL_drawL (tg := gSet 6) (me := mOp oIx (mV 4) (mCall 2 0 m_law_take [0, 1] [] (mCons (mV 3) (mCons (mC (.int 9)) mNil)) mNil)) (δ := [some (.scr (ns.map Dt.int)), some (.ptr 0), some (.int (k : Int)), some (.ptr B.length), some (.ptr (B.length + 2)), some (.ptr (B.length + 3)), none, some (.str o), some (.tup [.str o, .str w]), e9]) (fun _ m => (pick l9 m, m.fdiv 9)) Dt.str (fun m => W18 B m l10 (bs.map prD) ν4) (ds := rngD 0 qa) (N5.fdiv 4) (by
    intro d hd m
    have t := w_take (B := B) (N := m) (nm := l10) (bd := bs.map prD) (ν := ν4) (k := 9) (by decide) (by decide)
    have ix := w_ix (B := B) (N := m.fdiv 9) (nm := l10) (bd := bs.map prD) (ν := ν4) (m.fmod 9)
    obtain ⟨p, mm⟩ := pick_at (l := l9) (x := [o ++ Str.ofString ".q"]) (N := m) l9h
    rw [hl10] at p
    rw [p] at ix
    refine ⟨_, rfl, ?_⟩
    dsimp only
    clear g4 g7 g9 t1 t2 t3 t5 t8 ix5 ix8 ap6 sl9 ad9
    generalize W18 B m l10 (bs.map prD) ν4 = M1 at *
    generalize W18 B (m.fdiv 9) l10 (bs.map prD) ν4 = M2 at *
    generalize pick l9 m = PP at *
    simp (disch := first | assumption | omega | (simp; done) | (simp; omega)) [oFld_ptr, oFld_exc, insAt, mMeth_ap, dctAt, oDGet_ptr, oDIn_ptr, stPut_ptr, O_no, sTry_ap, oCatN_pl, bAppend_ptr, srcZ_lp, srcL_ptr, oSl_ptr, oIx_ptr, lstAt,  bCount_dot, bSplit_dot, bRpart_dot, bLstrip_dot, bJoin_dot, bJoin_none, oIx_lst, oIx_tup, oIx_scr, oIx_str, oSl_str, srcR1_int, srcR2_int, cLen_str, oAdd_str, oAdd_lst, oEq_int, oNe_int, oEq_str, oNe_str, mDef_ap, if_no, cLenD_ptr, t, ix, -oIx_ptr, -strsD_cons])
  have dl := drawL_len (fun (_ : Dt) (m : Int) => (pick l9 m, m.fdiv 9)) (rngD 0 qa) (N5.fdiv 4)
  have da := drawL_all (f := fun (_ : Dt) (m : Int) => (pick l9 m, m.fdiv 9)) (P := fun z => nameS z = true) (fun x m => okn _ (pick_at (l := l9) (x := []) (N := m) l9h).2) (rngD 0 qa) (N5.fdiv 4)
  generalize (drawL (fun (_ : Dt) (m : Int) => (pick l9 m, m.fdiv 9)) (rngD 0 qa) (N5.fdiv 4)).1 = rs at *
  generalize (drawL (fun (_ : Dt) (m : Int) => (pick l9 m, m.fdiv 9)) (rngD 0 qa) (N5.fdiv 4)).2 = N6 at *
  have rl : (rngD 0 qa).length = qa := by simp
  rw [rl] at dl
  rw [map_str] at lc
  obtain ⟨ν5, gb2⟩ := good_loop (μ := W18 B N6 l10 (bs.map prD) ν4) (nm := .ptr (B.length + 2)) (l := l10) (gd := some (B.length + 2, .lst (strsD l10))) (fd_barred (l := rs) (by omega) da) len10 (fun ν => by
    rw [w_app, srcL_ptr]
    have : lstAt (W18 B N6 l10 (bs.map prD) (ν4 ++ ν)) (B.length + 2) = some (strsD l10) := by
      unfold lstAt
      rw [w_nm]
    rw [this]) (fun ν => by rw [w_app, okG_some]; exact w_nm)
  rw [w_app] at gb2
  have gb2 : m_law_good [.int 2, _, _, _] _ = _ := gb2
  have cr : cTup [.lst (strsD rs)] (W18 B N6 l10 (bs.map prD) ν4) = .ok (.tup (strsD rs)) (W18 B N6 l10 (bs.map prD) ν4) := rfl
  have wl : W18 B N6 l10 (bs.map prD) (ν4 ++ ν5) = B ++ (.lst [.int N6] :: .lst (strsD sevenL) :: .lst (strsD l10) :: .lst (bs.map prD) :: (ν4 ++ ν5)) := rfl
  refine ⟨.lst [.int N6] :: .lst (strsD sevenL) :: .lst (strsD l10) :: .lst (bs.map prD) :: (ν4 ++ ν5), some (.ptr B.length), some (.ptr (B.length + 2)), some (.ptr (B.length + 3)), y6, some (.str o), some (.tup [.str o, .str w]), some (.tup (strsD rs)), ?_⟩
  rw [← wl]
  have x2 : sAsg (mNew (mCons (mC (.str "a")) (mCons (mC (.str "b")) (mCons (mC (.str "a.b")) (mCons (mC (.str "ab")) (mCons (mC (.str "a.b.ab")) (mCons (mC (.str "zz")) (mCons (mC (.str "aa.b")) mNil)))))))) (gSet 4) [some (.scr (ns.map Dt.int)), some (.ptr 0), some (.int (k : Int)), some (.ptr B.length), e4, e5, e6, e7, e8, e9] (B ++ [.lst [.int N]]) = .nx [some (.scr (ns.map Dt.int)), some (.ptr 0), some (.int (k : Int)), some (.ptr B.length), some (.ptr (B.length + 1)), e5, e6, e7, e8, e9] (B ++ [.lst [.int N], .lst (strsD sevenL)]) := by
    have e : strsD sevenL = [.str "a", .str "b", .str "a.b", .str "ab", .str "a.b.ab", .str "zz", .str "aa.b"] := rfl
    rw [e]
    simp (disch := first | assumption | omega | (simp; done) | (simp; omega)) [oFld_ptr, oFld_exc, insAt, mMeth_ap, dctAt, oDGet_ptr, oDIn_ptr, stPut_ptr, O_no, sTry_ap, oCatN_pl, bAppend_ptr, srcZ_lp, srcL_ptr, oSl_ptr, oIx_ptr, lstAt,  bCount_dot, bSplit_dot, bRpart_dot, bLstrip_dot, bJoin_dot, bJoin_none, oIx_lst, oIx_tup, oIx_scr, oIx_str, oSl_str, srcR1_int, srcR2_int, cLen_str, oAdd_str, oAdd_lst, oEq_int, oNe_int, oEq_str, oNe_str, mDef_ap, if_no, cLenD_ptr, -strsD_cons]
  generalize bodsD bs = BB at *
  generalize bs.map prD = BP at *
  clear hi okn n1 n2 p1 p2 s1 s2 gb len10 da rl okO okW m5 m8 wl
  rw [b_law_1_ap]
  refine seq_step (δ1 := [some (.scr (ns.map Dt.int)), some (.ptr 0), some (.int (k : Int)), some (.ptr B.length), e4, e5, e6, e7, e8, e9]) (μ1 := B ++ [.lst [.int N]]) (by
    simp (disch := first | assumption | omega | (simp; done) | (simp; omega)) [oFld_ptr, oFld_exc, insAt, mMeth_ap, dctAt, oDGet_ptr, oDIn_ptr, stPut_ptr, O_no, sTry_ap, oCatN_pl, bAppend_ptr, srcZ_lp, srcL_ptr, oSl_ptr, oIx_ptr, lstAt,  bCount_dot, bSplit_dot, bRpart_dot, bLstrip_dot, bJoin_dot, bJoin_none, oIx_lst, oIx_tup, oIx_scr, oIx_str, oSl_str, srcR1_int, srcR2_int, cLen_str, oAdd_str, oAdd_lst, oEq_int, oNe_int, oEq_str, oNe_str, mDef_ap, if_no, cLenD_ptr, hc]) ?_
  refine seq_step (δ1 := [some (.scr (ns.map Dt.int)), some (.ptr 0), some (.int (k : Int)), some (.ptr B.length), some (.ptr (B.length + 1)), e5, e6, e7, e8, e9]) (μ1 := B ++ [.lst [.int N], .lst (strsD sevenL)]) (by
    exact x2) ?_
  refine seq_step (δ1 := [some (.scr (ns.map Dt.int)), some (.ptr 0), some (.int (k : Int)), some (.ptr B.length), some (.ptr (B.length + 2)), e5, e6, e7, e8, e9]) (μ1 := B ++ [.lst [.int N2], .lst (strsD sevenL), .lst (strsD l9)]) (by
    simp (disch := first | assumption | omega | (simp; done) | (simp; omega)) [oFld_ptr, oFld_exc, insAt, mMeth_ap, dctAt, oDGet_ptr, oDIn_ptr, stPut_ptr, O_no, sTry_ap, oCatN_pl, bAppend_ptr, srcZ_lp, srcL_ptr, oSl_ptr, oIx_ptr, lstAt,  bCount_dot, bSplit_dot, bRpart_dot, bLstrip_dot, bJoin_dot, bJoin_none, oIx_lst, oIx_tup, oIx_scr, oIx_str, oSl_str, srcR1_int, srcR2_int, cLen_str, oAdd_str, oAdd_lst, oEq_int, oNe_int, oEq_str, oNe_str, mDef_ap, if_no, cLenD_ptr, t1, t2, cat, -oCatN_pl, -strsD_cons]) ?_
  refine seq_step (δ1 := [some (.scr (ns.map Dt.int)), some (.ptr 0), some (.int (k : Int)), some (.ptr B.length), some (.ptr (B.length + 2)), some (.ptr (B.length + 3)), e6, e7, e8, e9]) (μ1 := W18 B N2 l9 [] []) (by
    rw [← w0]
    simp (disch := first | assumption | omega | (simp; done) | (simp; omega)) [oFld_ptr, oFld_exc, insAt, mMeth_ap, dctAt, oDGet_ptr, oDIn_ptr, stPut_ptr, O_no, sTry_ap, oCatN_pl, bAppend_ptr, srcZ_lp, srcL_ptr, oSl_ptr, oIx_ptr, lstAt,  bCount_dot, bSplit_dot, bRpart_dot, bLstrip_dot, bJoin_dot, bJoin_none, oIx_lst, oIx_tup, oIx_scr, oIx_str, oSl_str, srcR1_int, srcR2_int, cLen_str, oAdd_str, oAdd_lst, oEq_int, oNe_int, oEq_str, oNe_str, mDef_ap, if_no, cLenD_ptr]) ?_
  refine seq_step (δ1 := [some (.scr (ns.map Dt.int)), some (.ptr 0), some (.int (k : Int)), some (.ptr B.length), some (.ptr (B.length + 2)), some (.ptr (B.length + 3)), y6, e7, e8, e9]) (μ1 := W18 B N3 l9 BP []) (by
    simp (disch := first | assumption | omega | (simp; done) | (simp; omega)) [oFld_ptr, oFld_exc, insAt, mMeth_ap, dctAt, oDGet_ptr, oDIn_ptr, stPut_ptr, O_no, sTry_ap, oCatN_pl, bAppend_ptr, srcZ_lp, srcL_ptr, oSl_ptr, oIx_ptr, lstAt,  bCount_dot, bSplit_dot, bRpart_dot, bLstrip_dot, bJoin_dot, bJoin_none, oIx_lst, oIx_tup, oIx_scr, oIx_str, oSl_str, srcR1_int, srcR2_int, cLen_str, oAdd_str, oAdd_lst, oEq_int, oNe_int, oEq_str, oNe_str, mDef_ap, if_no, cLenD_ptr, t3, hq, g4]) ?_
  refine seq_step (δ1 := [some (.scr (ns.map Dt.int)), some (.ptr 0), some (.int (k : Int)), some (.ptr B.length), some (.ptr (B.length + 2)), some (.ptr (B.length + 3)), y6, some (.str o), e8, e9]) (μ1 := W18 B N4 l9 BP []) (by
    simp (disch := first | assumption | omega | (simp; done) | (simp; omega)) [oFld_ptr, oFld_exc, insAt, mMeth_ap, dctAt, oDGet_ptr, oDIn_ptr, stPut_ptr, O_no, sTry_ap, oCatN_pl, bAppend_ptr, srcZ_lp, srcL_ptr, oSl_ptr, oIx_ptr, lstAt,  bCount_dot, bSplit_dot, bRpart_dot, bLstrip_dot, bJoin_dot, bJoin_none, oIx_lst, oIx_tup, oIx_scr, oIx_str, oSl_str, srcR1_int, srcR2_int, cLen_str, oAdd_str, oAdd_lst, oEq_int, oNe_int, oEq_str, oNe_str, mDef_ap, if_no, cLenD_ptr, t5, ix5, -oIx_ptr, -strsD_cons]) ?_
  refine seq_step (δ1 := [some (.scr (ns.map Dt.int)), some (.ptr 0), some (.int (k : Int)), some (.ptr B.length), some (.ptr (B.length + 2)), some (.ptr (B.length + 3)), y6, some (.str o), e8, e9]) (μ1 := W18 B N4 l10 BP []) (by
    simp (disch := first | assumption | omega | (simp; done) | (simp; omega)) [oFld_ptr, oFld_exc, insAt, mMeth_ap, dctAt, oDGet_ptr, oDIn_ptr, stPut_ptr, O_no, sTry_ap, oCatN_pl, bAppend_ptr, srcZ_lp, srcL_ptr, oSl_ptr, oIx_ptr, lstAt,  bCount_dot, bSplit_dot, bRpart_dot, bLstrip_dot, bJoin_dot, bJoin_none, oIx_lst, oIx_tup, oIx_scr, oIx_str, oSl_str, srcR1_int, srcR2_int, cLen_str, oAdd_str, oAdd_lst, oEq_int, oNe_int, oEq_str, oNe_str, mDef_ap, if_no, cLenD_ptr, ty6, aq, ap6, -tyM_ptr, -bAppend_ptr, -oAdd_str]) ?_
  refine seq_step (δ1 := [some (.scr (ns.map Dt.int)), some (.ptr 0), some (.int (k : Int)), some (.ptr B.length), some (.ptr (B.length + 2)), some (.ptr (B.length + 3)), y6, some (.str o), e8, e9]) (μ1 := W18 B N4 l10 BP ν2) (by
    simp (disch := first | assumption | omega | (simp; done) | (simp; omega)) [oFld_ptr, oFld_exc, insAt, mMeth_ap, dctAt, oDGet_ptr, oDIn_ptr, stPut_ptr, O_no, sTry_ap, oCatN_pl, bAppend_ptr, srcZ_lp, srcL_ptr, oSl_ptr, oIx_ptr, lstAt,  bCount_dot, bSplit_dot, bRpart_dot, bLstrip_dot, bJoin_dot, bJoin_none, oIx_lst, oIx_tup, oIx_scr, oIx_str, oSl_str, srcR1_int, srcR2_int, cLen_str, oAdd_str, oAdd_lst, oEq_int, oNe_int, oEq_str, oNe_str, mDef_ap, if_no, cLenD_ptr, tb, g7]) ?_
  refine seq_step (δ1 := [some (.scr (ns.map Dt.int)), some (.ptr 0), some (.int (k : Int)), some (.ptr B.length), some (.ptr (B.length + 2)), some (.ptr (B.length + 3)), y6, some (.str o), some (.tup [.str o, .str w]), e9]) (μ1 := W18 B N5 l10 BP ν2) (by
    simp (disch := first | assumption | omega | (simp; done) | (simp; omega)) [oFld_ptr, oFld_exc, insAt, mMeth_ap, dctAt, oDGet_ptr, oDIn_ptr, stPut_ptr, O_no, sTry_ap, oCatN_pl, bAppend_ptr, srcZ_lp, srcL_ptr, oSl_ptr, oIx_ptr, lstAt,  bCount_dot, bSplit_dot, bRpart_dot, bLstrip_dot, bJoin_dot, bJoin_none, oIx_lst, oIx_tup, oIx_scr, oIx_str, oSl_str, srcR1_int, srcR2_int, cLen_str, oAdd_str, oAdd_lst, oEq_int, oNe_int, oEq_str, oNe_str, mDef_ap, if_no, cLenD_ptr, t8, ix8, -oIx_ptr, -strsD_cons]) ?_
  refine seq_step (δ1 := [some (.scr (ns.map Dt.int)), some (.ptr 0), some (.int (k : Int)), some (.ptr B.length), some (.ptr (B.length + 2)), some (.ptr (B.length + 3)), y6, some (.str o), some (.tup [.str o, .str w]), e9]) (μ1 := W18 B N5 l10 BP ν4) (by
    simp (disch := first | assumption | omega | (simp; done) | (simp; omega)) [oFld_ptr, oFld_exc, insAt, mMeth_ap, dctAt, oDGet_ptr, oDIn_ptr, stPut_ptr, O_no, sTry_ap, oCatN_pl, bAppend_ptr, srcZ_lp, srcL_ptr, oSl_ptr, oIx_ptr, lstAt,  bCount_dot, bSplit_dot, bRpart_dot, bLstrip_dot, bJoin_dot, bJoin_none, oIx_lst, oIx_tup, oIx_scr, oIx_str, oSl_str, srcR1_int, srcR2_int, cLen_str, oAdd_str, oAdd_lst, oEq_int, oNe_int, oEq_str, oNe_str, mDef_ap, if_no, cLenD_ptr, sl9, aq, ad9, g9, -oSl_ptr, -oAdd_str, -oAdd_lst, -strsD_cons]) ?_
  refine seq_step (δ1 := [some (.scr (ns.map Dt.int)), some (.ptr 0), some (.int (k : Int)), some (.ptr B.length), some (.ptr (B.length + 2)), some (.ptr (B.length + 3)), y6, some (.str o), some (.tup [.str o, .str w]), some (.tup (strsD rs))]) (μ1 := W18 B N6 l10 BP ν4) (by
    simp (disch := first | assumption | omega | (simp; done) | (simp; omega)) [oFld_ptr, oFld_exc, insAt, mMeth_ap, dctAt, oDGet_ptr, oDIn_ptr, stPut_ptr, O_no, sTry_ap, oCatN_pl, bAppend_ptr, srcZ_lp, srcL_ptr, oSl_ptr, oIx_ptr, lstAt,  bCount_dot, bSplit_dot, bRpart_dot, bLstrip_dot, bJoin_dot, bJoin_none, oIx_lst, oIx_tup, oIx_scr, oIx_str, oSl_str, srcR1_int, srcR2_int, cLen_str, oAdd_str, oAdd_lst, oEq_int, oNe_int, oEq_str, oNe_str, mDef_ap, if_no, cLenD_ptr, ta, hqa, wipeD, lc, cr]) ?_
  simp (disch := first | assumption | omega | (simp; done) | (simp; omega)) [oFld_ptr, oFld_exc, insAt, mMeth_ap, dctAt, oDGet_ptr, oDIn_ptr, stPut_ptr, O_no, sTry_ap, oCatN_pl, bAppend_ptr, srcZ_lp, srcL_ptr, oSl_ptr, oIx_ptr, lstAt,  bCount_dot, bSplit_dot, bRpart_dot, bLstrip_dot, bJoin_dot, bJoin_none, oIx_lst, oIx_tup, oIx_scr, oIx_str, oSl_str, srcR1_int, srcR2_int, cLen_str, oAdd_str, oAdd_lst, oEq_int, oNe_int, oEq_str, oNe_str, mDef_ap, if_no, cLenD_ptr, gb2]
end
theorem law_true : ∀ ns : List Int, ns.length ≤ 63 → ∃ μ, m_law [.scr (ns.map Dt.int)] [] = .ok (.bl true) μ := by
  intro ns hns
  obtain ⟨δ', B, g1, p1⟩ := forL_run (fun i δ' μ' => (∃ y2 y3 y4 y5 y6 y7 y8 y9, δ' = [some (.scr (ns.map Dt.int)), some (.ptr 0), y2, y3, y4, y5, y6, y7, y8, y9]) ∧ HI μ') (tg := gSet 2) (body := b_law_1) (ds := rngD 0 4) (δ := [some (.scr (ns.map Dt.int)), some (.ptr 0), none, none, none, none, none, none, none, none]) (μ := M18) ⟨⟨none, none, none, none, none, none, none, none, rfl⟩, HI_M⟩ (by
    rintro i d δ μ2 hd ⟨⟨y2, y3, y4, y5, y6, y7, y8, y9, rfl⟩, hi⟩
    obtain ⟨rfl, hl⟩ := rng_at hd
    rw [Int.zero_add]
    obtain ⟨ν, z3, z4, z5, z6, z7, z8, z9, g⟩ := e_turn18 (ns := ns) hl hi (e3 := y3) (e4 := y4) (e5 := y5) (e6 := y6) (e7 := y7) (e8 := y8) (e9 := y9)
    exact ⟨_, _, _, rfl, g, ⟨_, z3, z4, z5, z6, z7, z8, z9, rfl⟩, hi.app⟩)
  obtain ⟨⟨y2, y3, y4, y5, y6, y7, y8, y9, rfl⟩, hi⟩ := p1
  have e1 := e_told hi
  have e2 := f_log hi
  have ho := hi.o
  have e3 : oEq (.lst []) (.lst []) B = .ok (.bl true) B := by simp [oEq, toPM, toPs, PyData.eqv, PyData.eqvAll]
  have e4 : List.lookup (Str.ofString "told") hallF = none := rfl
  have eh := e_hall
  refine ⟨B, ?_⟩
  unfold m_law
  rw [mDef_ap (by rfl)]
  refine Eq.trans (b := O.out (.rt (.bl true) B)) (congrArg O.out ?_) rfl
  refine seq_step (δ1 := [some (.scr (ns.map Dt.int)), some (.ptr 0), none, none, none, none, none, none, none, none]) (μ1 := M18) (by
    generalize M18 = MM at eh
    simp (disch := first | assumption | omega | (simp; done) | (simp; omega)) [oFld_ptr, oFld_exc, insAt, mMeth_ap, dctAt, oDGet_ptr, oDIn_ptr, stPut_ptr, O_no, sTry_ap, oCatN_pl, bAppend_ptr, srcZ_lp, srcL_ptr, oSl_ptr, oIx_ptr, lstAt,  bCount_dot, bSplit_dot, bRpart_dot, bLstrip_dot, bJoin_dot, bJoin_none, oIx_lst, oIx_tup, oIx_scr, oIx_str, oSl_str, srcR1_int, srcR2_int, cLen_str, oAdd_str, oAdd_lst, oEq_int, oNe_int, oEq_str, oNe_str, mDef_ap, if_no, cLenD_ptr, eh, -strsD_cons]) ?_
  refine seq_step (δ1 := [some (.scr (ns.map Dt.int)), some (.ptr 0), y2, y3, y4, y5, y6, y7, y8, y9]) (μ1 := B) (by
    generalize M18 = MM at g1 ⊢
    simp (disch := first | assumption | omega | (simp; done) | (simp; omega)) [oFld_ptr, oFld_exc, insAt, mMeth_ap, dctAt, oDGet_ptr, oDIn_ptr, stPut_ptr, O_no, sTry_ap, oCatN_pl, bAppend_ptr, srcZ_lp, srcL_ptr, oSl_ptr, oIx_ptr, lstAt,  bCount_dot, bSplit_dot, bRpart_dot, bLstrip_dot, bJoin_dot, bJoin_none, oIx_lst, oIx_tup, oIx_scr, oIx_str, oSl_str, srcR1_int, srcR2_int, cLen_str, oAdd_str, oAdd_lst, oEq_int, oNe_int, oEq_str, oNe_str, mDef_ap, if_no, cLenD_ptr, g1]) ?_
  simp (disch := first | assumption | omega | (simp; done) | (simp; omega)) [oFld_ptr, oFld_exc, insAt, mMeth_ap, dctAt, oDGet_ptr, oDIn_ptr, stPut_ptr, O_no, sTry_ap, oCatN_pl, bAppend_ptr, srcZ_lp, srcL_ptr, oSl_ptr, oIx_ptr, lstAt,  bCount_dot, bSplit_dot, bRpart_dot, bLstrip_dot, bJoin_dot, bJoin_none, oIx_lst, oIx_tup, oIx_scr, oIx_str, oSl_str, srcR1_int, srcR2_int, cLen_str, oAdd_str, oAdd_lst, oEq_int, oNe_int, oEq_str, oNe_str, mDef_ap, if_no, cLenD_ptr, ho, e4, e1, e3, e2, -oFld_ptr]

open DM in
abbrev RR : PySem.W.OpenRow := PySem.W.OpenLaw.row PySem.Challenge.rw_loadhall_k18_other_finders
def hcs0 : List (PySem.W.Frag → Bool) := [
  fun K => He.eqO (PySem.W.nsIn K mainGlobals "NoStore") (some (some (.ref (He.ga K "NoStore")))),
  fun K => He.eqO (PySem.W.nsIn K mainGlobals "NoFinder") (some (some (.ref (He.ga K "NoFinder")))),
  fun K => He.eqO (PySem.W.nsIn K mainGlobals "NoLine") (some (some (.ref (He.ga K "NoLine")))),
  fun K => He.eqO (PySem.W.nsIn K mainGlobals "Store") (some (some (.ref (He.ga K "Store")))),
  fun K => He.eqO (PySem.W.nsIn K mainGlobals "Lists") (some (some (.ref (He.ga K "Lists")))),
  fun K => He.eqO (PySem.W.nsIn K mainGlobals "Forms") (some (some (.ref (He.ga K "Forms")))),
  fun K => He.eqO (PySem.W.nsIn K mainGlobals "Along") (some (some (.ref (He.ga K "Along")))),
  fun K => He.eqO (PySem.W.nsIn K mainGlobals "Built") (some (some (.ref (He.ga K "Built")))),
  fun K => He.eqO (PySem.W.nsIn K mainGlobals "Other") (some (some (.ref (He.ga K "Other")))),
  fun K => He.eqO (PySem.W.nsIn K mainGlobals "Barred") (some (some (.ref (He.ga K "Barred")))),
  fun K => He.eqO (PySem.W.nsIn K mainGlobals "Hall") (some (some (.ref (He.ga K "Hall")))),
  fun K => He.eqO (PySem.W.nsIn K mainGlobals "Hand") (some (some (.ref (He.ga K "Hand")))),
  fun K => He.eqO (PySem.W.nsIn K mainGlobals "Module") (some (some (.ref (He.ga K "Module")))),
  fun K => PySem.W.makesIn K (He.ga K "Store"),
  fun K => PySem.W.keepIn K (.ref (He.ga K "Store")),
  fun K => PySem.W.plainGet K (He.ga K "Store") Str.empty,
  fun K => PySem.W.hasDictIn K (He.ga K "Store"),
  fun K => PySem.W.plainOver K (He.ga K "Store"),
  fun K => He.eqO (PySem.W.findIn K (.ref (He.ga K "Store")) "__setattr__") (some (some (.builtin "object.__setattr__"))),
  fun K => He.eqO (PySem.W.findIn K (.ref (He.ga K "Store")) "name") (some none),
  fun K => He.eqO (PySem.W.findIn K (.ref (He.ga K "Store")) "bodies") (some none),
  fun K => He.eqO (PySem.W.findIn K (.ref (He.ga K "Store")) "changed") (some none),
  fun K => PySem.W.makesIn K (He.ga K "Lists"),
  fun K => PySem.W.keepIn K (.ref (He.ga K "Lists")),
  fun K => PySem.W.plainGet K (He.ga K "Lists") Str.empty]
def hcs1 : List (PySem.W.Frag → Bool) := [
  fun K => PySem.W.hasDictIn K (He.ga K "Lists"),
  fun K => PySem.W.plainOver K (He.ga K "Lists"),
  fun K => He.eqO (PySem.W.findIn K (.ref (He.ga K "Lists")) "__setattr__") (some (some (.builtin "object.__setattr__"))),
  fun K => He.eqO (PySem.W.findIn K (.ref (He.ga K "Lists")) "known") (some none),
  fun K => PySem.W.makesIn K (He.ga K "Forms"),
  fun K => PySem.W.keepIn K (.ref (He.ga K "Forms")),
  fun K => PySem.W.plainGet K (He.ga K "Forms") Str.empty,
  fun K => PySem.W.hasDictIn K (He.ga K "Forms"),
  fun K => PySem.W.plainOver K (He.ga K "Forms"),
  fun K => He.eqO (PySem.W.findIn K (.ref (He.ga K "Forms")) "__setattr__") (some (some (.builtin "object.__setattr__"))),
  fun K => He.eqO (PySem.W.findIn K (.ref (He.ga K "Forms")) "check") (some none),
  fun K => He.eqO (PySem.W.findIn K (.ref (He.ga K "Forms")) "read") (some none),
  fun K => He.eqO (PySem.W.findIn K (.ref (He.ga K "Forms")) "made") (some none),
  fun K => He.eqO (PySem.W.findIn K (.ref (He.ga K "Forms")) "kept") (some none),
  fun K => PySem.W.makesIn K (He.ga K "Along"),
  fun K => PySem.W.keepIn K (.ref (He.ga K "Along")),
  fun K => PySem.W.plainGet K (He.ga K "Along") Str.empty,
  fun K => PySem.W.hasDictIn K (He.ga K "Along"),
  fun K => PySem.W.plainOver K (He.ga K "Along"),
  fun K => He.eqO (PySem.W.findIn K (.ref (He.ga K "Along")) "__setattr__") (some (some (.builtin "object.__setattr__"))),
  fun K => He.eqO (PySem.W.findIn K (.ref (He.ga K "Along")) "word") (some none),
  fun K => PySem.W.makesIn K (He.ga K "Built"),
  fun K => PySem.W.keepIn K (.ref (He.ga K "Built")),
  fun K => PySem.W.plainGet K (He.ga K "Built") Str.empty,
  fun K => PySem.W.hasDictIn K (He.ga K "Built")]
def hcs2 : List (PySem.W.Frag → Bool) := [
  fun K => PySem.W.plainOver K (He.ga K "Built"),
  fun K => He.eqO (PySem.W.findIn K (.ref (He.ga K "Built")) "__setattr__") (some (some (.builtin "object.__setattr__"))),
  fun K => He.eqO (PySem.W.findIn K (.ref (He.ga K "Built")) "word") (some none),
  fun K => He.eqO (PySem.W.findIn K (.ref (He.ga K "Built")) "built") (some none),
  fun K => PySem.W.makesIn K (He.ga K "Other"),
  fun K => PySem.W.keepIn K (.ref (He.ga K "Other")),
  fun K => PySem.W.plainGet K (He.ga K "Other") Str.empty,
  fun K => PySem.W.hasDictIn K (He.ga K "Other"),
  fun K => PySem.W.plainOver K (He.ga K "Other"),
  fun K => He.eqO (PySem.W.findIn K (.ref (He.ga K "Other")) "__setattr__") (some (some (.builtin "object.__setattr__"))),
  fun K => He.eqO (PySem.W.findIn K (.ref (He.ga K "Other")) "word") (some none),
  fun K => He.eqO (PySem.W.findIn K (.ref (He.ga K "Other")) "old") (some none),
  fun K => He.eqO (PySem.W.findIn K (.ref (He.ga K "Other")) "new") (some none),
  fun K => PySem.W.makesIn K (He.ga K "Barred"),
  fun K => PySem.W.keepIn K (.ref (He.ga K "Barred")),
  fun K => PySem.W.plainGet K (He.ga K "Barred") Str.empty,
  fun K => PySem.W.hasDictIn K (He.ga K "Barred"),
  fun K => PySem.W.plainOver K (He.ga K "Barred"),
  fun K => He.eqO (PySem.W.findIn K (.ref (He.ga K "Barred")) "__setattr__") (some (some (.builtin "object.__setattr__"))),
  fun K => He.eqO (PySem.W.findIn K (.ref (He.ga K "Barred")) "word") (some none),
  fun K => He.eqO (PySem.W.findIn K (.ref (He.ga K "Barred")) "barred") (some none),
  fun K => PySem.W.makesIn K (He.ga K "Hall"),
  fun K => PySem.W.keepIn K (.ref (He.ga K "Hall")),
  fun K => PySem.W.plainGet K (He.ga K "Hall") Str.empty,
  fun K => PySem.W.hasDictIn K (He.ga K "Hall")]
def hcs3 : List (PySem.W.Frag → Bool) := [
  fun K => PySem.W.plainOver K (He.ga K "Hall"),
  fun K => He.eqO (PySem.W.findIn K (.ref (He.ga K "Hall")) "__setattr__") (some (some (.builtin "object.__setattr__"))),
  fun K => He.eqO (PySem.W.findIn K (.ref (He.ga K "Hall")) "clock") (some none),
  fun K => He.eqO (PySem.W.findIn K (.ref (He.ga K "Hall")) "lists") (some none),
  fun K => He.eqO (PySem.W.findIn K (.ref (He.ga K "Hall")) "forms") (some none),
  fun K => He.eqO (PySem.W.findIn K (.ref (He.ga K "Hall")) "finders") (some none),
  fun K => He.eqO (PySem.W.findIn K (.ref (He.ga K "Hall")) "path") (some none),
  fun K => He.eqO (PySem.W.findIn K (.ref (He.ga K "Hall")) "stores") (some none),
  fun K => He.eqO (PySem.W.findIn K (.ref (He.ga K "Hall")) "modules") (some none),
  fun K => He.eqO (PySem.W.findIn K (.ref (He.ga K "Hall")) "table") (some none),
  fun K => He.eqO (PySem.W.findIn K (.ref (He.ga K "Hall")) "workers") (some none),
  fun K => He.eqO (PySem.W.findIn K (.ref (He.ga K "Hall")) "log") (some none),
  fun K => He.eqO (PySem.W.findIn K (.ref (He.ga K "Hall")) "marks") (some none),
  fun K => PySem.W.makesIn K (He.ga K "Hand"),
  fun K => PySem.W.keepIn K (.ref (He.ga K "Hand")),
  fun K => PySem.W.plainGet K (He.ga K "Hand") Str.empty,
  fun K => PySem.W.hasDictIn K (He.ga K "Hand"),
  fun K => PySem.W.plainOver K (He.ga K "Hand"),
  fun K => He.eqO (PySem.W.findIn K (.ref (He.ga K "Hand")) "__setattr__") (some (some (.builtin "object.__setattr__"))),
  fun K => He.eqO (PySem.W.findIn K (.ref (He.ga K "Hand")) "word") (some none),
  fun K => He.eqO (PySem.W.findIn K (.ref (He.ga K "Hand")) "module") (some none),
  fun K => He.eqO (PySem.W.findIn K (.ref (He.ga K "Hand")) "tasks") (some none),
  fun K => He.eqO (PySem.W.findIn K (.ref (He.ga K "Hand")) "had") (some none),
  fun K => He.eqO (PySem.W.findIn K (.ref (He.ga K "Hand")) "begun") (some none),
  fun K => He.eqO (PySem.W.findIn K (.ref (He.ga K "Hand")) "sleeper") (some none)]
def hcs4 : List (PySem.W.Frag → Bool) := [
  fun K => PySem.W.makesIn K (He.ga K "Module"),
  fun K => PySem.W.keepIn K (.ref (He.ga K "Module")),
  fun K => PySem.W.plainGet K (He.ga K "Module") Str.empty,
  fun K => PySem.W.hasDictIn K (He.ga K "Module"),
  fun K => PySem.W.plainOver K (He.ga K "Module"),
  fun K => He.eqO (PySem.W.findIn K (.ref (He.ga K "Module")) "__setattr__") (some (some (.builtin "object.__setattr__"))),
  fun K => He.eqO (PySem.W.findIn K (.ref (He.ga K "Module")) "number") (some none),
  fun K => He.eqO (PySem.W.findIn K (.ref (He.ga K "Module")) "name") (some none),
  fun K => He.eqO (PySem.W.findIn K (.ref (He.ga K "Module")) "state") (some none),
  fun K => He.eqO (PySem.W.findIn K (.ref (He.ga K "Module")) "places") (some none),
  fun K => He.eqO (PySem.W.findIn K (.ref (He.ga K "Module")) "doer") (some none),
  fun K => He.eqO (PySem.W.findIn K (.ref (He.ga K "Module")) "worths") (some none),
  fun K => He.eqO (PySem.W.findIn K (.ref (He.ga K "Module")) "sums") (some none),
  fun K => He.eqO (PySem.W.findIn K (.ref (He.ga K "Module")) "shown") (some none),
  fun K => He.eqO (PySem.W.findIn K (.ref (He.ga K "Module")) "body") (some none),
  fun K => He.eqO (PySem.W.nsIn K mainGlobals "is_part") (some (some (.ref (He.fAd K ("is_part", none))))),
  fun K => PySem.W.keepIn K (.ref (He.fAd K ("is_part", none))),
  fun K => He.eqO (PySem.W.nsIn K mainGlobals "look_at_path") (some (some (.ref (He.fAd K ("look_at_path", none))))),
  fun K => PySem.W.keepIn K (.ref (He.fAd K ("look_at_path", none))),
  fun K => He.eqO (PySem.W.findIn K (.ref (He.ga K "Lists")) "__init__") (some (some (.ref (He.fAd K ("Lists", some "__init__"))))),
  fun K => PySem.W.isFn K (.ref (He.fAd K ("Lists", some "__init__"))),
  fun K => PySem.W.keepIn K (.ref (He.fAd K ("Lists", some "__init__"))),
  fun K => He.eqO (PySem.W.nsIn K mainGlobals "look_at_check") (some (some (.ref (He.fAd K ("look_at_check", none))))),
  fun K => PySem.W.keepIn K (.ref (He.fAd K ("look_at_check", none))),
  fun K => He.eqO (PySem.W.findIn K (.ref (He.ga K "Forms")) "__init__") (some (some (.ref (He.fAd K ("Forms", some "__init__")))))]
def hcs5 : List (PySem.W.Frag → Bool) := [
  fun K => PySem.W.isFn K (.ref (He.fAd K ("Forms", some "__init__"))),
  fun K => PySem.W.keepIn K (.ref (He.fAd K ("Forms", some "__init__"))),
  fun K => He.eqO (PySem.W.findIn K (.ref (He.ga K "Hand")) "__init__") (some (some (.ref (He.fAd K ("Hand", some "__init__"))))),
  fun K => PySem.W.isFn K (.ref (He.fAd K ("Hand", some "__init__"))),
  fun K => PySem.W.keepIn K (.ref (He.fAd K ("Hand", some "__init__"))),
  fun K => He.eqO (PySem.W.findIn K (.ref (He.ga K "Module")) "__init__") (some (some (.ref (He.fAd K ("Module", some "__init__"))))),
  fun K => PySem.W.isFn K (.ref (He.fAd K ("Module", some "__init__"))),
  fun K => PySem.W.keepIn K (.ref (He.fAd K ("Module", some "__init__"))),
  fun K => He.eqO (PySem.W.nsIn K mainGlobals "new_module") (some (some (.ref (He.fAd K ("new_module", none))))),
  fun K => PySem.W.keepIn K (.ref (He.fAd K ("new_module", none))),
  fun K => He.eqO (PySem.W.nsIn K mainGlobals "hand_of") (some (some (.ref (He.fAd K ("hand_of", none))))),
  fun K => PySem.W.keepIn K (.ref (He.fAd K ("hand_of", none))),
  fun K => He.eqO (PySem.W.findIn K (.ref (He.ga K "Along")) "__init__") (some (some (.ref (He.fAd K ("Along", some "__init__"))))),
  fun K => PySem.W.isFn K (.ref (He.fAd K ("Along", some "__init__"))),
  fun K => PySem.W.keepIn K (.ref (He.fAd K ("Along", some "__init__"))),
  fun K => He.eqO (PySem.W.findIn K (.ref (He.ga K "Store")) "__init__") (some (some (.ref (He.fAd K ("Store", some "__init__"))))),
  fun K => PySem.W.isFn K (.ref (He.fAd K ("Store", some "__init__"))),
  fun K => PySem.W.keepIn K (.ref (He.fAd K ("Store", some "__init__"))),
  fun K => He.eqO (PySem.W.findIn K (.ref (He.ga K "Hall")) "__init__") (some (some (.ref (He.fAd K ("Hall", some "__init__"))))),
  fun K => PySem.W.isFn K (.ref (He.fAd K ("Hall", some "__init__"))),
  fun K => PySem.W.keepIn K (.ref (He.fAd K ("Hall", some "__init__"))),
  fun K => ktB K (DM.kwA ("Hall", some "__init__") "path" K) [],
  fun K => He.eqO (PySem.W.nsIn K mainGlobals "_law_mixed") (some (some (.ref (He.fAd K ("_law_mixed", none))))),
  fun K => PySem.W.keepIn K (.ref (He.fAd K ("_law_mixed", none))),
  fun K => He.eqO (PySem.W.nsIn K mainGlobals "_law_cell") (some (some (.ref (He.fAd K ("_law_cell", none)))))]
def hcs6 : List (PySem.W.Frag → Bool) := [
  fun K => PySem.W.keepIn K (.ref (He.fAd K ("_law_cell", none))),
  fun K => He.eqO (PySem.W.nsIn K mainGlobals "_law_take") (some (some (.ref (He.fAd K ("_law_take", none))))),
  fun K => PySem.W.keepIn K (.ref (He.fAd K ("_law_take", none))),
  fun K => He.eqO (PySem.W.nsIn K mainGlobals "no_finder") (some (some (.ref (He.fAd K ("no_finder", none))))),
  fun K => PySem.W.keepIn K (.ref (He.fAd K ("no_finder", none))),
  fun K => He.eqO (PySem.W.nsIn K mainGlobals "is_name") (some (some (.ref (He.fAd K ("is_name", none))))),
  fun K => PySem.W.keepIn K (.ref (He.fAd K ("is_name", none))),
  fun K => He.eqO (PySem.W.findIn K (.ref (He.ga K "Barred")) "__init__") (some (some (.ref (He.fAd K ("Barred", some "__init__"))))),
  fun K => PySem.W.isFn K (.ref (He.fAd K ("Barred", some "__init__"))),
  fun K => PySem.W.keepIn K (.ref (He.fAd K ("Barred", some "__init__"))),
  fun K => He.eqO (PySem.W.findIn K (.ref (He.ga K "Built")) "__init__") (some (some (.ref (He.fAd K ("Built", some "__init__"))))),
  fun K => PySem.W.isFn K (.ref (He.fAd K ("Built", some "__init__"))),
  fun K => PySem.W.keepIn K (.ref (He.fAd K ("Built", some "__init__"))),
  fun K => He.eqO (PySem.W.findIn K (.ref (He.ga K "Other")) "__init__") (some (some (.ref (He.fAd K ("Other", some "__init__"))))),
  fun K => PySem.W.isFn K (.ref (He.fAd K ("Other", some "__init__"))),
  fun K => PySem.W.keepIn K (.ref (He.fAd K ("Other", some "__init__"))),
  fun K => He.eqO (PySem.W.nsIn K mainGlobals "_law_made") (some (some (.ref (He.fAd K ("_law_made", none))))),
  fun K => PySem.W.keepIn K (.ref (He.fAd K ("_law_made", none))),
  fun K => He.eqO (PySem.W.nsIn K mainGlobals "_law_due") (some (some (.ref (He.fAd K ("_law_due", none))))),
  fun K => PySem.W.keepIn K (.ref (He.fAd K ("_law_due", none))),
  fun K => He.eqO (PySem.W.findIn K (.ref (He.ga K "Built")) "find") (some (some (.ref (He.fAd K ("Built", some "find"))))),
  fun K => PySem.W.isFn K (.ref (He.fAd K ("Built", some "find"))),
  fun K => PySem.W.keepIn K (.ref (He.fAd K ("Built", some "find"))),
  fun K => He.eqO (PySem.W.findIn K (.ref (He.ga K "Other")) "find") (some (some (.ref (He.fAd K ("Other", some "find"))))),
  fun K => PySem.W.isFn K (.ref (He.fAd K ("Other", some "find")))]
def hcs7 : List (PySem.W.Frag → Bool) := [
  fun K => PySem.W.keepIn K (.ref (He.fAd K ("Other", some "find"))),
  fun K => He.eqO (PySem.W.findIn K (.ref (He.ga K "Barred")) "find") (some (some (.ref (He.fAd K ("Barred", some "find"))))),
  fun K => PySem.W.isFn K (.ref (He.fAd K ("Barred", some "find"))),
  fun K => PySem.W.keepIn K (.ref (He.fAd K ("Barred", some "find"))),
  fun K => He.eqO (PySem.W.nsIn K mainGlobals "_law_good") (some (some (.ref (He.fAd K ("_law_good", none))))),
  fun K => PySem.W.keepIn K (.ref (He.fAd K ("_law_good", none))),
  fun K => He.eqO (PySem.W.findIn K (.ref (He.ga K "Hall")) "told") (some (some (.ref (He.fAd K ("Hall", some "told"))))),
  fun K => PySem.W.isFn K (.ref (He.fAd K ("Hall", some "told"))),
  fun K => PySem.W.keepIn K (.ref (He.fAd K ("Hall", some "told"))),
  fun K => He.eqO (PySem.W.nsIn K mainGlobals "_law_part_drawn") (some (some (.ref (He.fAd K ("_law_part_drawn", none))))),
  fun K => PySem.W.keepIn K (.ref (He.fAd K ("_law_part_drawn", none))),
  fun K => He.eqO (PySem.W.nsIn K mainGlobals "_law_name_drawn") (some (some (.ref (He.fAd K ("_law_name_drawn", none))))),
  fun K => PySem.W.keepIn K (.ref (He.fAd K ("_law_name_drawn", none))),
  fun K => He.eqO (PySem.W.nsIn K mainGlobals "_law_text_drawn") (some (some (.ref (He.fAd K ("_law_text_drawn", none))))),
  fun K => PySem.W.keepIn K (.ref (He.fAd K ("_law_text_drawn", none))),
  fun K => He.eqO (PySem.W.nsIn K mainGlobals "law") (some (some (.ref (He.fAd K ("law", none))))),
  fun K => PySem.W.keepIn K (.ref (He.fAd K ("law", none))),
  fun K => He.eqO (PySem.W.nsIn K mainGlobals "CHECKS") (some (some (.ref (He.ga K "CHECKS")))),
  fun K => ktB K (He.ga K "CHECKS") [.str "stamp", .str "sum"],
  fun K => He.eqO (PySem.W.nsIn K mainGlobals "isinstance") (some none),
  fun K => He.eqO (PySem.W.nsIn K mainGlobals "str") (some none),
  fun K => He.eqO (PySem.W.nsIn K mainGlobals "len") (some none),
  fun K => He.eqO (PySem.W.nsIn K mainGlobals "all") (some none),
  fun K => He.eqO (PySem.W.nsIn K mainGlobals "tuple") (some none),
  fun K => He.eqO (PySem.W.nsIn K mainGlobals "range") (some none)]
def hcs8 : List (PySem.W.Frag → Bool) := [
  fun K => He.eqO (PySem.W.nsIn K mainGlobals "int") (some none),
  fun K => He.eqO (PySem.W.nsIn K mainGlobals "sorted") (some none),
  fun K => (He.Fa.int "LONGEST" 8).ok K,
  fun K => (He.Fa.str "SMALL" "abcdefghijklmnopqrstuvwxyz").ok K,
  fun K => (He.Fa.int "MOST_PARTS" 4).ok K,
  fun K => decide (PySem.W.typeIn K (.ref (He.ga K "NoLine")) = some (.type "type")),
  fun K => decide (PySem.W.subIn K (.ref (He.ga K "NoLine")) (.type "BaseException") = some true),
  fun K => decide (PySem.W.typeIn K (.ref (He.ga K "NoFinder")) = some (.type "type")),
  fun K => decide (PySem.W.subIn K (.ref (He.ga K "NoFinder")) (.type "BaseException") = some true),
  fun K => decide (PySem.W.typeIn K (.ref (He.ga K "NoStore")) = some (.type "type")),
  fun K => decide (PySem.W.subIn K (.ref (He.ga K "NoStore")) (.type "BaseException") = some true),
  fun K => PySem.W.keepIn K (.ref (He.ga K "NoStore")),
  fun K => PySem.W.excIn K (He.ga K "NoStore") [.type "ValueError", .type "Exception", .type "BaseException", .type "object"] "ValueError.__new__",
  fun K => PySem.W.keepIn K (.ref (He.ga K "NoLine")),
  fun K => PySem.W.excIn K (He.ga K "NoLine") [.type "ValueError", .type "Exception", .type "BaseException", .type "object"] "ValueError.__new__",
  fun K => PySem.W.keepIn K (.ref (He.ga K "NoFinder")),
  fun K => PySem.W.excIn K (He.ga K "NoFinder") [.type "ValueError", .type "Exception", .type "BaseException", .type "object"] "ValueError.__new__"]
def hcs : List (PySem.W.Frag → Bool) := hcs0 ++ (hcs1 ++ (hcs2 ++ (hcs3 ++ (hcs4 ++ (hcs5 ++ (hcs6 ++ (hcs7 ++ (hcs8))))))))
def hd0 : He.DefD := ⟨("is_part", none), "is_part", "is_part", defArgs s_is_part, defBody s_is_part, defScope s_is_part, [], []⟩
def hd1 : He.DefD := ⟨("look_at_path", none), "look_at_path", "look_at_path", defArgs s_look_at_path, defBody s_look_at_path, defScope s_look_at_path, [], []⟩
def hd2 : He.DefD := ⟨("Lists", some "__init__"), "__init__", "Lists.__init__", defArgs s_Lists___init__, defBody s_Lists___init__, defScope s_Lists___init__, [], []⟩
def hd3 : He.DefD := ⟨("look_at_check", none), "look_at_check", "look_at_check", defArgs s_look_at_check, defBody s_look_at_check, defScope s_look_at_check, [], []⟩
def hd4 : He.DefD := ⟨("Forms", some "__init__"), "__init__", "Forms.__init__", defArgs s_Forms___init__, defBody s_Forms___init__, defScope s_Forms___init__, [], [("check", .str "stamp")]⟩
def hd5 : He.DefD := ⟨("Hand", some "__init__"), "__init__", "Hand.__init__", defArgs s_Hand___init__, defBody s_Hand___init__, defScope s_Hand___init__, [], []⟩
def hd6 : He.DefD := ⟨("Module", some "__init__"), "__init__", "Module.__init__", defArgs s_Module___init__, defBody s_Module___init__, defScope s_Module___init__, [], [("places", .non), ("doer", .non)]⟩
def hd7 : He.DefD := ⟨("new_module", none), "new_module", "new_module", defArgs s_new_module, defBody s_new_module, defScope s_new_module, [], [("places", .non), ("doer", .non)]⟩
def hd8 : He.DefD := ⟨("hand_of", none), "hand_of", "hand_of", defArgs s_hand_of, defBody s_hand_of, defScope s_hand_of, [], []⟩
def hd9 : He.DefD := ⟨("Along", some "__init__"), "__init__", "Along.__init__", defArgs s_Along___init__, defBody s_Along___init__, defScope s_Along___init__, [], []⟩
def hd10 : He.DefD := ⟨("Store", some "__init__"), "__init__", "Store.__init__", defArgs s_Store___init__, defBody s_Store___init__, defScope s_Store___init__, [], []⟩
def hd11 : He.DefD := ⟨("Hall", some "__init__"), "__init__", "Hall.__init__", defArgs s_Hall___init__, defBody s_Hall___init__, defScope s_Hall___init__, [], [("path", .adr (DM.kwA ("Hall", some "__init__") "path")), ("check", .str "stamp")]⟩
def hd12 : He.DefD := ⟨("_law_mixed", none), "_law_mixed", "_law_mixed", defArgs s_law_mixed, defBody s_law_mixed, defScope s_law_mixed, [], []⟩
def hd13 : He.DefD := ⟨("_law_cell", none), "_law_cell", "_law_cell", defArgs s_law_cell, defBody s_law_cell, defScope s_law_cell, [], []⟩
def hd14 : He.DefD := ⟨("_law_take", none), "_law_take", "_law_take", defArgs s_law_take, defBody s_law_take, defScope s_law_take, [], []⟩
def hd15 : He.DefD := ⟨("no_finder", none), "no_finder", "no_finder", defArgs s_no_finder, defBody s_no_finder, defScope s_no_finder, [], []⟩
def hd16 : He.DefD := ⟨("is_name", none), "is_name", "is_name", defArgs s_is_name, defBody s_is_name, defScope s_is_name, [], []⟩
def hd17 : He.DefD := ⟨("Barred", some "__init__"), "__init__", "Barred.__init__", defArgs s_Barred___init__, defBody s_Barred___init__, defScope s_Barred___init__, [], []⟩
def hd18 : He.DefD := ⟨("Built", some "__init__"), "__init__", "Built.__init__", defArgs s_Built___init__, defBody s_Built___init__, defScope s_Built___init__, [], []⟩
def hd19 : He.DefD := ⟨("Other", some "__init__"), "__init__", "Other.__init__", defArgs s_Other___init__, defBody s_Other___init__, defScope s_Other___init__, [], []⟩
def hd20 : He.DefD := ⟨("_law_made", none), "_law_made", "_law_made", defArgs s_law_made, defBody s_law_made, defScope s_law_made, [], []⟩
def hd21 : He.DefD := ⟨("_law_due", none), "_law_due", "_law_due", defArgs s_law_due, defBody s_law_due, defScope s_law_due, [], []⟩
def hd22 : He.DefD := ⟨("Built", some "find"), "find", "Built.find", defArgs s_Built_find, defBody s_Built_find, defScope s_Built_find, [], []⟩
def hd23 : He.DefD := ⟨("Other", some "find"), "find", "Other.find", defArgs s_Other_find, defBody s_Other_find, defScope s_Other_find, [], []⟩
def hd24 : He.DefD := ⟨("Barred", some "find"), "find", "Barred.find", defArgs s_Barred_find, defBody s_Barred_find, defScope s_Barred_find, [], []⟩
def hd25 : He.DefD := ⟨("_law_good", none), "_law_good", "_law_good", defArgs s_law_good, defBody s_law_good, defScope s_law_good, [], []⟩
def hd26 : He.DefD := ⟨("Hall", some "told"), "told", "Hall.told", defArgs s_Hall_told, defBody s_Hall_told, defScope s_Hall_told, [], []⟩
def hd27 : He.DefD := ⟨("_law_part_drawn", none), "_law_part_drawn", "_law_part_drawn", defArgs s_law_part_drawn, defBody s_law_part_drawn, defScope s_law_part_drawn, [], []⟩
def hd28 : He.DefD := ⟨("_law_name_drawn", none), "_law_name_drawn", "_law_name_drawn", defArgs s_law_name_drawn, defBody s_law_name_drawn, defScope s_law_name_drawn, [], []⟩
def hd29 : He.DefD := ⟨("_law_text_drawn", none), "_law_text_drawn", "_law_text_drawn", defArgs s_law_text_drawn, defBody s_law_text_drawn, defScope s_law_text_drawn, [], []⟩
def hd30 : He.DefD := ⟨("law", none), "law", "law", defArgs s_law, defBody s_law, defScope s_law, [], []⟩
def hfn0 : List He.DefD := [
  hd0,
  hd1,
  hd2,
  hd3,
  hd4,
  hd5,
  hd6,
  hd7,
  hd8,
  hd9,
  hd10,
  hd11,
  hd12,
  hd13,
  hd14,
  hd15,
  hd16,
  hd17,
  hd18,
  hd19,
  hd20,
  hd21,
  hd22,
  hd23,
  hd24]
def hfn1 : List He.DefD := [
  hd25,
  hd26,
  hd27,
  hd28,
  hd29,
  hd30]
def hfn : List He.DefD := hfn0 ++ (hfn1)
def hnm0 : List PySem.Str := [PySem.Str.ofString "_wall", PySem.Str.ofString "NoName", PySem.Str.ofString "NoStore", PySem.Str.ofString "NoFinder", PySem.Str.ofString "NoHand", PySem.Str.ofString "NoLine", PySem.Str.ofString "NoBody", PySem.Str.ofString "NotFound", PySem.Str.ofString "NotPack", PySem.Str.ofString "Lacking", PySem.Str.ofString "Failed", PySem.Str.ofString "Lost", PySem.Str.ofString "TooDeep", PySem.Str.ofString "Stuck", PySem.Str.ofString "Asleep", PySem.Str.ofString "SMALL", PySem.Str.ofString "LONGEST", PySem.Str.ofString "MOST_PARTS", PySem.Str.ofString "is_part", PySem.Str.ofString "is_name", PySem.Str.ofString "elder_of", PySem.Str.ofString "last_of", PySem.Str.ofString "is_near", PySem.Str.ofString "near_name", PySem.Str.ofString "no_finder", PySem.Str.ofString "Along", PySem.Str.ofString "Built", PySem.Str.ofString "Other", PySem.Str.ofString "Barred", PySem.Str.ofString "FIGURES", PySem.Str.ofString "MOST_FIGURES", PySem.Str.ofString "MOST_TERMS", PySem.Str.ofString "MOST_ROWS", PySem.Str.ofString "is_number", PySem.Str.ofString "is_sum", PySem.Str.ofString "are_unlike", PySem.Str.ofString "is_bound", PySem.Str.ofString "is_taken", PySem.Str.ofString "is_row", PySem.Str.ofString "read_rows"]
def hnm1 : List PySem.Str := [PySem.Str.ofString "read_body", PySem.Str.ofString "CHECK", PySem.Str.ofString "CHECKS", PySem.Str.ofString "look_at_check", PySem.Str.ofString "Forms", PySem.Str.ofString "MOST_WHENS", PySem.Str.ofString "MOST_SUM", PySem.Str.ofString "Module", PySem.Str.ofString "look", PySem.Str.ofString "path_worth", PySem.Str.ofString "worth_of", PySem.Str.ofString "worth_text", PySem.Str.ofString "Task", PySem.Str.ofString "Hand", PySem.Str.ofString "Fault", PySem.Str.ofString "trail_of", PySem.Str.ofString "raise_fault", PySem.Str.ofString "MOST_BODIES", PySem.Str.ofString "new_module", PySem.Str.ofString "hand_of", PySem.Str.ofString "begin_rows", PySem.Str.ofString "waits_for", PySem.Str.ofString "closes_ring", PySem.Str.ofString "answer", PySem.Str.ofString "rows_found", PySem.Str.ofString "begin_body", PySem.Str.ofString "look_at_begun", PySem.Str.ofString "end_body", PySem.Str.ofString "set_in_elder", PySem.Str.ofString "look_at_looking", PySem.Str.ofString "wanted", PySem.Str.ofString "sought", PySem.Str.ofString "places_beneath", PySem.Str.ofString "found_anew", PySem.Str.ofString "wake", PySem.Str.ofString "look_at_name", PySem.Str.ofString "Store", PySem.Str.ofString "Lists", PySem.Str.ofString "meant_by", PySem.Str.ofString "first_worth"]
def hnm2 : List PySem.Str := [PySem.Str.ofString "walked", PySem.Str.ofString "further", PySem.Str.ofString "simple_row", PySem.Str.ofString "want", PySem.Str.ofString "load_row", PySem.Str.ofString "later_row", PySem.Str.ofString "from_row", PySem.Str.ofString "taken_parts", PySem.Str.ofString "again_row", PySem.Str.ofString "look_row", PySem.Str.ofString "row_done", PySem.Str.ofString "deed_of", PySem.Str.ofString "tried", PySem.Str.ofString "cast_out", PySem.Str.ofString "unwound", PySem.Str.ofString "row_is_due", PySem.Str.ofString "step_of", PySem.Str.ofString "stuck", PySem.Str.ofString "MOST_OWN_ROWS", PySem.Str.ofString "MOST_HANDS", PySem.Str.ofString "look_at_path", PySem.Str.ofString "Hall", PySem.Str.ofString "_law_mixed", PySem.Str.ofString "_law_cell", PySem.Str.ofString "_law_take", PySem.Str.ofString "_law_part_drawn", PySem.Str.ofString "_law_name_drawn", PySem.Str.ofString "_law_text_drawn", PySem.Str.ofString "_law_due", PySem.Str.ofString "_law_made", PySem.Str.ofString "_law_good"]
def hnm : List PySem.Str := hnm0 ++ (hnm1 ++ (hnm2))
def hxs0 : List PySem.Str := [PySem.Str.ofString "NoStore", PySem.Str.ofString "NoFinder", PySem.Str.ofString "NoLine", PySem.Str.ofString "Store", PySem.Str.ofString "Lists", PySem.Str.ofString "Forms", PySem.Str.ofString "Along", PySem.Str.ofString "Built", PySem.Str.ofString "Other", PySem.Str.ofString "Barred", PySem.Str.ofString "Hall", PySem.Str.ofString "Hand", PySem.Str.ofString "Module", PySem.Str.ofString "is_part", PySem.Str.ofString "look_at_path", PySem.Str.ofString "look_at_check", PySem.Str.ofString "new_module", PySem.Str.ofString "hand_of", PySem.Str.ofString "_law_mixed", PySem.Str.ofString "_law_cell", PySem.Str.ofString "_law_take", PySem.Str.ofString "no_finder", PySem.Str.ofString "is_name", PySem.Str.ofString "_law_made", PySem.Str.ofString "_law_due", PySem.Str.ofString "_law_good", PySem.Str.ofString "_law_part_drawn", PySem.Str.ofString "_law_name_drawn", PySem.Str.ofString "_law_text_drawn", PySem.Str.ofString "law", PySem.Str.ofString "CHECKS"]
def hxs : List PySem.Str := hxs0
abbrev hkX : PySem.W.Hook := hookX 4 hxs hcs hfn
def obX (s : PySem.W.SharedT) : He.AlD := obsX 4 hxs hcs hfn (HandSHeadRun.getT s)
theorem obX_eq (s : PySem.W.SharedT) : obX s = hkX.obs s.abs := obsX_eq (HandSHeadRun.getT_eq s)
set_option maxHeartbeats 0 in
theorem runA (w : World) : RunA RR (PySem.W.view RR.prog [124]) 30000 hnm w := by
  intro os
  kernel_rfl
set_option maxHeartbeats 0 in
theorem runB (w : World) : RunB RR hkX obX 30000 w := by
  intro os
  kernel_rfl
theorem runX (w : World) : HandSHeadRun.RunEq RR (PySem.W.view RR.prog [124]) hkX obX 30000 hnm w := run_two (runA w) (runB w)
theorem all_mk {l : PySem.W.OpenLaw} {w : World} {K : PySem.W.Frag} {h : Heap} {mg : Str → Option Value} {fa : Addr} (X : K.In h) (G : h.Ns mainGlobals mg) (hfa : mg "law" = some (.ref fa)) (c : HB hcs hfn K) :
    ∃ fd : FuncData, (∀ (s : Shared) (v : Value), BindsTo s fd ⟨[v], []⟩ [("_law_script", v)]) ∧ ∀ base : Heap, K.In base → base.Ns mainGlobals mg → FnOk l.prog w K mg base (L2.CX l.prog w) 7 fa fd ["_law_script"] (spLaw K) := by
  have g_NoStore : PySem.W.nsIn K mainGlobals "NoStore" = some (some (.ref (He.ga K "NoStore"))) := He.eqO_ok (c.fact 0 rfl)
  have g_NoFinder : PySem.W.nsIn K mainGlobals "NoFinder" = some (some (.ref (He.ga K "NoFinder"))) := He.eqO_ok (c.fact 1 rfl)
  have g_NoLine : PySem.W.nsIn K mainGlobals "NoLine" = some (some (.ref (He.ga K "NoLine"))) := He.eqO_ok (c.fact 2 rfl)
  have g_Store : PySem.W.nsIn K mainGlobals "Store" = some (some (.ref (He.ga K "Store"))) := He.eqO_ok (c.fact 3 rfl)
  have g_Lists : PySem.W.nsIn K mainGlobals "Lists" = some (some (.ref (He.ga K "Lists"))) := He.eqO_ok (c.fact 4 rfl)
  have g_Forms : PySem.W.nsIn K mainGlobals "Forms" = some (some (.ref (He.ga K "Forms"))) := He.eqO_ok (c.fact 5 rfl)
  have g_Along : PySem.W.nsIn K mainGlobals "Along" = some (some (.ref (He.ga K "Along"))) := He.eqO_ok (c.fact 6 rfl)
  have g_Built : PySem.W.nsIn K mainGlobals "Built" = some (some (.ref (He.ga K "Built"))) := He.eqO_ok (c.fact 7 rfl)
  have g_Other : PySem.W.nsIn K mainGlobals "Other" = some (some (.ref (He.ga K "Other"))) := He.eqO_ok (c.fact 8 rfl)
  have g_Barred : PySem.W.nsIn K mainGlobals "Barred" = some (some (.ref (He.ga K "Barred"))) := He.eqO_ok (c.fact 9 rfl)
  have g_Hall : PySem.W.nsIn K mainGlobals "Hall" = some (some (.ref (He.ga K "Hall"))) := He.eqO_ok (c.fact 10 rfl)
  have g_Hand : PySem.W.nsIn K mainGlobals "Hand" = some (some (.ref (He.ga K "Hand"))) := He.eqO_ok (c.fact 11 rfl)
  have g_Module : PySem.W.nsIn K mainGlobals "Module" = some (some (.ref (He.ga K "Module"))) := He.eqO_ok (c.fact 12 rfl)
  have mk_Store : PySem.W.makesIn K (He.ga K "Store") = true := (c.fact 13 rfl)
  have kp_Store : PySem.W.keepIn K (.ref (He.ga K "Store")) = true := (c.fact 14 rfl)
  have pg_Store : PySem.W.plainGet K (He.ga K "Store") Str.empty = true := (c.fact 15 rfl)
  have hd_Store : PySem.W.hasDictIn K (He.ga K "Store") = true := (c.fact 16 rfl)
  have po_Store : PySem.W.plainOver K (He.ga K "Store") = true := (c.fact 17 rfl)
  have sa_Store : PySem.W.findIn K (.ref (He.ga K "Store")) "__setattr__" = some (some (.builtin "object.__setattr__")) := He.eqO_ok (c.fact 18 rfl)
  have na_Store_name : PySem.W.findIn K (.ref (He.ga K "Store")) "name" = some none := He.eqO_ok (c.fact 19 rfl)
  have na_Store_bodies : PySem.W.findIn K (.ref (He.ga K "Store")) "bodies" = some none := He.eqO_ok (c.fact 20 rfl)
  have na_Store_changed : PySem.W.findIn K (.ref (He.ga K "Store")) "changed" = some none := He.eqO_ok (c.fact 21 rfl)
  have mk_Lists : PySem.W.makesIn K (He.ga K "Lists") = true := (c.fact 22 rfl)
  have kp_Lists : PySem.W.keepIn K (.ref (He.ga K "Lists")) = true := (c.fact 23 rfl)
  have pg_Lists : PySem.W.plainGet K (He.ga K "Lists") Str.empty = true := (c.fact 24 rfl)
  have hd_Lists : PySem.W.hasDictIn K (He.ga K "Lists") = true := (c.fact 25 rfl)
  have po_Lists : PySem.W.plainOver K (He.ga K "Lists") = true := (c.fact 26 rfl)
  have sa_Lists : PySem.W.findIn K (.ref (He.ga K "Lists")) "__setattr__" = some (some (.builtin "object.__setattr__")) := He.eqO_ok (c.fact 27 rfl)
  have na_Lists_known : PySem.W.findIn K (.ref (He.ga K "Lists")) "known" = some none := He.eqO_ok (c.fact 28 rfl)
  have mk_Forms : PySem.W.makesIn K (He.ga K "Forms") = true := (c.fact 29 rfl)
  have kp_Forms : PySem.W.keepIn K (.ref (He.ga K "Forms")) = true := (c.fact 30 rfl)
  have pg_Forms : PySem.W.plainGet K (He.ga K "Forms") Str.empty = true := (c.fact 31 rfl)
  have hd_Forms : PySem.W.hasDictIn K (He.ga K "Forms") = true := (c.fact 32 rfl)
  have po_Forms : PySem.W.plainOver K (He.ga K "Forms") = true := (c.fact 33 rfl)
  have sa_Forms : PySem.W.findIn K (.ref (He.ga K "Forms")) "__setattr__" = some (some (.builtin "object.__setattr__")) := He.eqO_ok (c.fact 34 rfl)
  have na_Forms_check : PySem.W.findIn K (.ref (He.ga K "Forms")) "check" = some none := He.eqO_ok (c.fact 35 rfl)
  have na_Forms_read : PySem.W.findIn K (.ref (He.ga K "Forms")) "read" = some none := He.eqO_ok (c.fact 36 rfl)
  have na_Forms_made : PySem.W.findIn K (.ref (He.ga K "Forms")) "made" = some none := He.eqO_ok (c.fact 37 rfl)
  have na_Forms_kept : PySem.W.findIn K (.ref (He.ga K "Forms")) "kept" = some none := He.eqO_ok (c.fact 38 rfl)
  have mk_Along : PySem.W.makesIn K (He.ga K "Along") = true := (c.fact 39 rfl)
  have kp_Along : PySem.W.keepIn K (.ref (He.ga K "Along")) = true := (c.fact 40 rfl)
  have pg_Along : PySem.W.plainGet K (He.ga K "Along") Str.empty = true := (c.fact 41 rfl)
  have hd_Along : PySem.W.hasDictIn K (He.ga K "Along") = true := (c.fact 42 rfl)
  have po_Along : PySem.W.plainOver K (He.ga K "Along") = true := (c.fact 43 rfl)
  have sa_Along : PySem.W.findIn K (.ref (He.ga K "Along")) "__setattr__" = some (some (.builtin "object.__setattr__")) := He.eqO_ok (c.fact 44 rfl)
  have na_Along_word : PySem.W.findIn K (.ref (He.ga K "Along")) "word" = some none := He.eqO_ok (c.fact 45 rfl)
  have mk_Built : PySem.W.makesIn K (He.ga K "Built") = true := (c.fact 46 rfl)
  have kp_Built : PySem.W.keepIn K (.ref (He.ga K "Built")) = true := (c.fact 47 rfl)
  have pg_Built : PySem.W.plainGet K (He.ga K "Built") Str.empty = true := (c.fact 48 rfl)
  have hd_Built : PySem.W.hasDictIn K (He.ga K "Built") = true := (c.fact 49 rfl)
  have po_Built : PySem.W.plainOver K (He.ga K "Built") = true := (c.fact 50 rfl)
  have sa_Built : PySem.W.findIn K (.ref (He.ga K "Built")) "__setattr__" = some (some (.builtin "object.__setattr__")) := He.eqO_ok (c.fact 51 rfl)
  have na_Built_word : PySem.W.findIn K (.ref (He.ga K "Built")) "word" = some none := He.eqO_ok (c.fact 52 rfl)
  have na_Built_built : PySem.W.findIn K (.ref (He.ga K "Built")) "built" = some none := He.eqO_ok (c.fact 53 rfl)
  have mk_Other : PySem.W.makesIn K (He.ga K "Other") = true := (c.fact 54 rfl)
  have kp_Other : PySem.W.keepIn K (.ref (He.ga K "Other")) = true := (c.fact 55 rfl)
  have pg_Other : PySem.W.plainGet K (He.ga K "Other") Str.empty = true := (c.fact 56 rfl)
  have hd_Other : PySem.W.hasDictIn K (He.ga K "Other") = true := (c.fact 57 rfl)
  have po_Other : PySem.W.plainOver K (He.ga K "Other") = true := (c.fact 58 rfl)
  have sa_Other : PySem.W.findIn K (.ref (He.ga K "Other")) "__setattr__" = some (some (.builtin "object.__setattr__")) := He.eqO_ok (c.fact 59 rfl)
  have na_Other_word : PySem.W.findIn K (.ref (He.ga K "Other")) "word" = some none := He.eqO_ok (c.fact 60 rfl)
  have na_Other_old : PySem.W.findIn K (.ref (He.ga K "Other")) "old" = some none := He.eqO_ok (c.fact 61 rfl)
  have na_Other_new : PySem.W.findIn K (.ref (He.ga K "Other")) "new" = some none := He.eqO_ok (c.fact 62 rfl)
  have mk_Barred : PySem.W.makesIn K (He.ga K "Barred") = true := (c.fact 63 rfl)
  have kp_Barred : PySem.W.keepIn K (.ref (He.ga K "Barred")) = true := (c.fact 64 rfl)
  have pg_Barred : PySem.W.plainGet K (He.ga K "Barred") Str.empty = true := (c.fact 65 rfl)
  have hd_Barred : PySem.W.hasDictIn K (He.ga K "Barred") = true := (c.fact 66 rfl)
  have po_Barred : PySem.W.plainOver K (He.ga K "Barred") = true := (c.fact 67 rfl)
  have sa_Barred : PySem.W.findIn K (.ref (He.ga K "Barred")) "__setattr__" = some (some (.builtin "object.__setattr__")) := He.eqO_ok (c.fact 68 rfl)
  have na_Barred_word : PySem.W.findIn K (.ref (He.ga K "Barred")) "word" = some none := He.eqO_ok (c.fact 69 rfl)
  have na_Barred_barred : PySem.W.findIn K (.ref (He.ga K "Barred")) "barred" = some none := He.eqO_ok (c.fact 70 rfl)
  have mk_Hall : PySem.W.makesIn K (He.ga K "Hall") = true := (c.fact 71 rfl)
  have kp_Hall : PySem.W.keepIn K (.ref (He.ga K "Hall")) = true := (c.fact 72 rfl)
  have pg_Hall : PySem.W.plainGet K (He.ga K "Hall") Str.empty = true := (c.fact 73 rfl)
  have hd_Hall : PySem.W.hasDictIn K (He.ga K "Hall") = true := (c.fact 74 rfl)
  have po_Hall : PySem.W.plainOver K (He.ga K "Hall") = true := (c.fact 75 rfl)
  have sa_Hall : PySem.W.findIn K (.ref (He.ga K "Hall")) "__setattr__" = some (some (.builtin "object.__setattr__")) := He.eqO_ok (c.fact 76 rfl)
  have na_Hall_clock : PySem.W.findIn K (.ref (He.ga K "Hall")) "clock" = some none := He.eqO_ok (c.fact 77 rfl)
  have na_Hall_lists : PySem.W.findIn K (.ref (He.ga K "Hall")) "lists" = some none := He.eqO_ok (c.fact 78 rfl)
  have na_Hall_forms : PySem.W.findIn K (.ref (He.ga K "Hall")) "forms" = some none := He.eqO_ok (c.fact 79 rfl)
  have na_Hall_finders : PySem.W.findIn K (.ref (He.ga K "Hall")) "finders" = some none := He.eqO_ok (c.fact 80 rfl)
  have na_Hall_path : PySem.W.findIn K (.ref (He.ga K "Hall")) "path" = some none := He.eqO_ok (c.fact 81 rfl)
  have na_Hall_stores : PySem.W.findIn K (.ref (He.ga K "Hall")) "stores" = some none := He.eqO_ok (c.fact 82 rfl)
  have na_Hall_modules : PySem.W.findIn K (.ref (He.ga K "Hall")) "modules" = some none := He.eqO_ok (c.fact 83 rfl)
  have na_Hall_table : PySem.W.findIn K (.ref (He.ga K "Hall")) "table" = some none := He.eqO_ok (c.fact 84 rfl)
  have na_Hall_workers : PySem.W.findIn K (.ref (He.ga K "Hall")) "workers" = some none := He.eqO_ok (c.fact 85 rfl)
  have na_Hall_log : PySem.W.findIn K (.ref (He.ga K "Hall")) "log" = some none := He.eqO_ok (c.fact 86 rfl)
  have na_Hall_marks : PySem.W.findIn K (.ref (He.ga K "Hall")) "marks" = some none := He.eqO_ok (c.fact 87 rfl)
  have mk_Hand : PySem.W.makesIn K (He.ga K "Hand") = true := (c.fact 88 rfl)
  have kp_Hand : PySem.W.keepIn K (.ref (He.ga K "Hand")) = true := (c.fact 89 rfl)
  have pg_Hand : PySem.W.plainGet K (He.ga K "Hand") Str.empty = true := (c.fact 90 rfl)
  have hd_Hand : PySem.W.hasDictIn K (He.ga K "Hand") = true := (c.fact 91 rfl)
  have po_Hand : PySem.W.plainOver K (He.ga K "Hand") = true := (c.fact 92 rfl)
  have sa_Hand : PySem.W.findIn K (.ref (He.ga K "Hand")) "__setattr__" = some (some (.builtin "object.__setattr__")) := He.eqO_ok (c.fact 93 rfl)
  have na_Hand_word : PySem.W.findIn K (.ref (He.ga K "Hand")) "word" = some none := He.eqO_ok (c.fact 94 rfl)
  have na_Hand_module : PySem.W.findIn K (.ref (He.ga K "Hand")) "module" = some none := He.eqO_ok (c.fact 95 rfl)
  have na_Hand_tasks : PySem.W.findIn K (.ref (He.ga K "Hand")) "tasks" = some none := He.eqO_ok (c.fact 96 rfl)
  have na_Hand_had : PySem.W.findIn K (.ref (He.ga K "Hand")) "had" = some none := He.eqO_ok (c.fact 97 rfl)
  have na_Hand_begun : PySem.W.findIn K (.ref (He.ga K "Hand")) "begun" = some none := He.eqO_ok (c.fact 98 rfl)
  have na_Hand_sleeper : PySem.W.findIn K (.ref (He.ga K "Hand")) "sleeper" = some none := He.eqO_ok (c.fact 99 rfl)
  have mk_Module : PySem.W.makesIn K (He.ga K "Module") = true := (c.fact 100 rfl)
  have kp_Module : PySem.W.keepIn K (.ref (He.ga K "Module")) = true := (c.fact 101 rfl)
  have pg_Module : PySem.W.plainGet K (He.ga K "Module") Str.empty = true := (c.fact 102 rfl)
  have hd_Module : PySem.W.hasDictIn K (He.ga K "Module") = true := (c.fact 103 rfl)
  have po_Module : PySem.W.plainOver K (He.ga K "Module") = true := (c.fact 104 rfl)
  have sa_Module : PySem.W.findIn K (.ref (He.ga K "Module")) "__setattr__" = some (some (.builtin "object.__setattr__")) := He.eqO_ok (c.fact 105 rfl)
  have na_Module_number : PySem.W.findIn K (.ref (He.ga K "Module")) "number" = some none := He.eqO_ok (c.fact 106 rfl)
  have na_Module_name : PySem.W.findIn K (.ref (He.ga K "Module")) "name" = some none := He.eqO_ok (c.fact 107 rfl)
  have na_Module_state : PySem.W.findIn K (.ref (He.ga K "Module")) "state" = some none := He.eqO_ok (c.fact 108 rfl)
  have na_Module_places : PySem.W.findIn K (.ref (He.ga K "Module")) "places" = some none := He.eqO_ok (c.fact 109 rfl)
  have na_Module_doer : PySem.W.findIn K (.ref (He.ga K "Module")) "doer" = some none := He.eqO_ok (c.fact 110 rfl)
  have na_Module_worths : PySem.W.findIn K (.ref (He.ga K "Module")) "worths" = some none := He.eqO_ok (c.fact 111 rfl)
  have na_Module_sums : PySem.W.findIn K (.ref (He.ga K "Module")) "sums" = some none := He.eqO_ok (c.fact 112 rfl)
  have na_Module_shown : PySem.W.findIn K (.ref (He.ga K "Module")) "shown" = some none := He.eqO_ok (c.fact 113 rfl)
  have na_Module_body : PySem.W.findIn K (.ref (He.ga K "Module")) "body" = some none := He.eqO_ok (c.fact 114 rfl)
  have a0 : PySem.W.nsIn K mainGlobals "is_part" = some (some (.ref (He.fAd K ("is_part", none)))) := He.eqO_ok (c.fact 115 rfl)
  have k0 : PySem.W.keepIn K (.ref (He.fAd K ("is_part", none))) = true := (c.fact 116 rfl)
  have a1 : PySem.W.nsIn K mainGlobals "look_at_path" = some (some (.ref (He.fAd K ("look_at_path", none)))) := He.eqO_ok (c.fact 117 rfl)
  have k1 : PySem.W.keepIn K (.ref (He.fAd K ("look_at_path", none))) = true := (c.fact 118 rfl)
  have a2 : PySem.W.findIn K (.ref (He.ga K "Lists")) "__init__" = some (some (.ref (He.fAd K ("Lists", some "__init__")))) := He.eqO_ok (c.fact 119 rfl)
  have fn2 : PySem.W.isFn K (.ref (He.fAd K ("Lists", some "__init__"))) = true := (c.fact 120 rfl)
  have k2 : PySem.W.keepIn K (.ref (He.fAd K ("Lists", some "__init__"))) = true := (c.fact 121 rfl)
  have a3 : PySem.W.nsIn K mainGlobals "look_at_check" = some (some (.ref (He.fAd K ("look_at_check", none)))) := He.eqO_ok (c.fact 122 rfl)
  have k3 : PySem.W.keepIn K (.ref (He.fAd K ("look_at_check", none))) = true := (c.fact 123 rfl)
  have a4 : PySem.W.findIn K (.ref (He.ga K "Forms")) "__init__" = some (some (.ref (He.fAd K ("Forms", some "__init__")))) := He.eqO_ok (c.fact 124 rfl)
  have fn4 : PySem.W.isFn K (.ref (He.fAd K ("Forms", some "__init__"))) = true := (c.fact 125 rfl)
  have k4 : PySem.W.keepIn K (.ref (He.fAd K ("Forms", some "__init__"))) = true := (c.fact 126 rfl)
  have a5 : PySem.W.findIn K (.ref (He.ga K "Hand")) "__init__" = some (some (.ref (He.fAd K ("Hand", some "__init__")))) := He.eqO_ok (c.fact 127 rfl)
  have fn5 : PySem.W.isFn K (.ref (He.fAd K ("Hand", some "__init__"))) = true := (c.fact 128 rfl)
  have k5 : PySem.W.keepIn K (.ref (He.fAd K ("Hand", some "__init__"))) = true := (c.fact 129 rfl)
  have a6 : PySem.W.findIn K (.ref (He.ga K "Module")) "__init__" = some (some (.ref (He.fAd K ("Module", some "__init__")))) := He.eqO_ok (c.fact 130 rfl)
  have fn6 : PySem.W.isFn K (.ref (He.fAd K ("Module", some "__init__"))) = true := (c.fact 131 rfl)
  have k6 : PySem.W.keepIn K (.ref (He.fAd K ("Module", some "__init__"))) = true := (c.fact 132 rfl)
  have a7 : PySem.W.nsIn K mainGlobals "new_module" = some (some (.ref (He.fAd K ("new_module", none)))) := He.eqO_ok (c.fact 133 rfl)
  have k7 : PySem.W.keepIn K (.ref (He.fAd K ("new_module", none))) = true := (c.fact 134 rfl)
  have a8 : PySem.W.nsIn K mainGlobals "hand_of" = some (some (.ref (He.fAd K ("hand_of", none)))) := He.eqO_ok (c.fact 135 rfl)
  have k8 : PySem.W.keepIn K (.ref (He.fAd K ("hand_of", none))) = true := (c.fact 136 rfl)
  have a9 : PySem.W.findIn K (.ref (He.ga K "Along")) "__init__" = some (some (.ref (He.fAd K ("Along", some "__init__")))) := He.eqO_ok (c.fact 137 rfl)
  have fn9 : PySem.W.isFn K (.ref (He.fAd K ("Along", some "__init__"))) = true := (c.fact 138 rfl)
  have k9 : PySem.W.keepIn K (.ref (He.fAd K ("Along", some "__init__"))) = true := (c.fact 139 rfl)
  have a10 : PySem.W.findIn K (.ref (He.ga K "Store")) "__init__" = some (some (.ref (He.fAd K ("Store", some "__init__")))) := He.eqO_ok (c.fact 140 rfl)
  have fn10 : PySem.W.isFn K (.ref (He.fAd K ("Store", some "__init__"))) = true := (c.fact 141 rfl)
  have k10 : PySem.W.keepIn K (.ref (He.fAd K ("Store", some "__init__"))) = true := (c.fact 142 rfl)
  have a11 : PySem.W.findIn K (.ref (He.ga K "Hall")) "__init__" = some (some (.ref (He.fAd K ("Hall", some "__init__")))) := He.eqO_ok (c.fact 143 rfl)
  have fn11 : PySem.W.isFn K (.ref (He.fAd K ("Hall", some "__init__"))) = true := (c.fact 144 rfl)
  have k11 : PySem.W.keepIn K (.ref (He.fAd K ("Hall", some "__init__"))) = true := (c.fact 145 rfl)
  have kt11 : KTup K (DM.kwA ("Hall", some "__init__") "path" K) [] := ktB_ok (c.fact 146 rfl)
  have a12 : PySem.W.nsIn K mainGlobals "_law_mixed" = some (some (.ref (He.fAd K ("_law_mixed", none)))) := He.eqO_ok (c.fact 147 rfl)
  have k12 : PySem.W.keepIn K (.ref (He.fAd K ("_law_mixed", none))) = true := (c.fact 148 rfl)
  have a13 : PySem.W.nsIn K mainGlobals "_law_cell" = some (some (.ref (He.fAd K ("_law_cell", none)))) := He.eqO_ok (c.fact 149 rfl)
  have k13 : PySem.W.keepIn K (.ref (He.fAd K ("_law_cell", none))) = true := (c.fact 150 rfl)
  have a14 : PySem.W.nsIn K mainGlobals "_law_take" = some (some (.ref (He.fAd K ("_law_take", none)))) := He.eqO_ok (c.fact 151 rfl)
  have k14 : PySem.W.keepIn K (.ref (He.fAd K ("_law_take", none))) = true := (c.fact 152 rfl)
  have a15 : PySem.W.nsIn K mainGlobals "no_finder" = some (some (.ref (He.fAd K ("no_finder", none)))) := He.eqO_ok (c.fact 153 rfl)
  have k15 : PySem.W.keepIn K (.ref (He.fAd K ("no_finder", none))) = true := (c.fact 154 rfl)
  have a16 : PySem.W.nsIn K mainGlobals "is_name" = some (some (.ref (He.fAd K ("is_name", none)))) := He.eqO_ok (c.fact 155 rfl)
  have k16 : PySem.W.keepIn K (.ref (He.fAd K ("is_name", none))) = true := (c.fact 156 rfl)
  have a17 : PySem.W.findIn K (.ref (He.ga K "Barred")) "__init__" = some (some (.ref (He.fAd K ("Barred", some "__init__")))) := He.eqO_ok (c.fact 157 rfl)
  have fn17 : PySem.W.isFn K (.ref (He.fAd K ("Barred", some "__init__"))) = true := (c.fact 158 rfl)
  have k17 : PySem.W.keepIn K (.ref (He.fAd K ("Barred", some "__init__"))) = true := (c.fact 159 rfl)
  have a18 : PySem.W.findIn K (.ref (He.ga K "Built")) "__init__" = some (some (.ref (He.fAd K ("Built", some "__init__")))) := He.eqO_ok (c.fact 160 rfl)
  have fn18 : PySem.W.isFn K (.ref (He.fAd K ("Built", some "__init__"))) = true := (c.fact 161 rfl)
  have k18 : PySem.W.keepIn K (.ref (He.fAd K ("Built", some "__init__"))) = true := (c.fact 162 rfl)
  have a19 : PySem.W.findIn K (.ref (He.ga K "Other")) "__init__" = some (some (.ref (He.fAd K ("Other", some "__init__")))) := He.eqO_ok (c.fact 163 rfl)
  have fn19 : PySem.W.isFn K (.ref (He.fAd K ("Other", some "__init__"))) = true := (c.fact 164 rfl)
  have k19 : PySem.W.keepIn K (.ref (He.fAd K ("Other", some "__init__"))) = true := (c.fact 165 rfl)
  have a20 : PySem.W.nsIn K mainGlobals "_law_made" = some (some (.ref (He.fAd K ("_law_made", none)))) := He.eqO_ok (c.fact 166 rfl)
  have k20 : PySem.W.keepIn K (.ref (He.fAd K ("_law_made", none))) = true := (c.fact 167 rfl)
  have a21 : PySem.W.nsIn K mainGlobals "_law_due" = some (some (.ref (He.fAd K ("_law_due", none)))) := He.eqO_ok (c.fact 168 rfl)
  have k21 : PySem.W.keepIn K (.ref (He.fAd K ("_law_due", none))) = true := (c.fact 169 rfl)
  have a22 : PySem.W.findIn K (.ref (He.ga K "Built")) "find" = some (some (.ref (He.fAd K ("Built", some "find")))) := He.eqO_ok (c.fact 170 rfl)
  have fn22 : PySem.W.isFn K (.ref (He.fAd K ("Built", some "find"))) = true := (c.fact 171 rfl)
  have k22 : PySem.W.keepIn K (.ref (He.fAd K ("Built", some "find"))) = true := (c.fact 172 rfl)
  have a23 : PySem.W.findIn K (.ref (He.ga K "Other")) "find" = some (some (.ref (He.fAd K ("Other", some "find")))) := He.eqO_ok (c.fact 173 rfl)
  have fn23 : PySem.W.isFn K (.ref (He.fAd K ("Other", some "find"))) = true := (c.fact 174 rfl)
  have k23 : PySem.W.keepIn K (.ref (He.fAd K ("Other", some "find"))) = true := (c.fact 175 rfl)
  have a24 : PySem.W.findIn K (.ref (He.ga K "Barred")) "find" = some (some (.ref (He.fAd K ("Barred", some "find")))) := He.eqO_ok (c.fact 176 rfl)
  have fn24 : PySem.W.isFn K (.ref (He.fAd K ("Barred", some "find"))) = true := (c.fact 177 rfl)
  have k24 : PySem.W.keepIn K (.ref (He.fAd K ("Barred", some "find"))) = true := (c.fact 178 rfl)
  have a25 : PySem.W.nsIn K mainGlobals "_law_good" = some (some (.ref (He.fAd K ("_law_good", none)))) := He.eqO_ok (c.fact 179 rfl)
  have k25 : PySem.W.keepIn K (.ref (He.fAd K ("_law_good", none))) = true := (c.fact 180 rfl)
  have a26 : PySem.W.findIn K (.ref (He.ga K "Hall")) "told" = some (some (.ref (He.fAd K ("Hall", some "told")))) := He.eqO_ok (c.fact 181 rfl)
  have fn26 : PySem.W.isFn K (.ref (He.fAd K ("Hall", some "told"))) = true := (c.fact 182 rfl)
  have k26 : PySem.W.keepIn K (.ref (He.fAd K ("Hall", some "told"))) = true := (c.fact 183 rfl)
  have a27 : PySem.W.nsIn K mainGlobals "_law_part_drawn" = some (some (.ref (He.fAd K ("_law_part_drawn", none)))) := He.eqO_ok (c.fact 184 rfl)
  have k27 : PySem.W.keepIn K (.ref (He.fAd K ("_law_part_drawn", none))) = true := (c.fact 185 rfl)
  have a28 : PySem.W.nsIn K mainGlobals "_law_name_drawn" = some (some (.ref (He.fAd K ("_law_name_drawn", none)))) := He.eqO_ok (c.fact 186 rfl)
  have k28 : PySem.W.keepIn K (.ref (He.fAd K ("_law_name_drawn", none))) = true := (c.fact 187 rfl)
  have a29 : PySem.W.nsIn K mainGlobals "_law_text_drawn" = some (some (.ref (He.fAd K ("_law_text_drawn", none)))) := He.eqO_ok (c.fact 188 rfl)
  have k29 : PySem.W.keepIn K (.ref (He.fAd K ("_law_text_drawn", none))) = true := (c.fact 189 rfl)
  have a30 : PySem.W.nsIn K mainGlobals "law" = some (some (.ref (He.fAd K ("law", none)))) := He.eqO_ok (c.fact 190 rfl)
  have k30 : PySem.W.keepIn K (.ref (He.fAd K ("law", none))) = true := (c.fact 191 rfl)
  have g_CHECKS : PySem.W.nsIn K mainGlobals "CHECKS" = some (some (.ref (He.ga K "CHECKS"))) := He.eqO_ok (c.fact 192 rfl)
  have kt_CHECKS : KTup K (He.ga K "CHECKS") [.str "stamp", .str "sum"] := ktB_ok (c.fact 193 rfl)
  have z_isinstance : PySem.W.nsIn K mainGlobals "isinstance" = some none := He.eqO_ok (c.fact 194 rfl)
  have z_str : PySem.W.nsIn K mainGlobals "str" = some none := He.eqO_ok (c.fact 195 rfl)
  have z_len : PySem.W.nsIn K mainGlobals "len" = some none := He.eqO_ok (c.fact 196 rfl)
  have z_all : PySem.W.nsIn K mainGlobals "all" = some none := He.eqO_ok (c.fact 197 rfl)
  have z_tuple : PySem.W.nsIn K mainGlobals "tuple" = some none := He.eqO_ok (c.fact 198 rfl)
  have z_range : PySem.W.nsIn K mainGlobals "range" = some none := He.eqO_ok (c.fact 199 rfl)
  have z_int : PySem.W.nsIn K mainGlobals "int" = some none := He.eqO_ok (c.fact 200 rfl)
  have z_sorted : PySem.W.nsIn K mainGlobals "sorted" = some none := He.eqO_ok (c.fact 201 rfl)
  have c_LONGEST : GC mg "LONGEST" (.int 8) := gci X G (c.fact 202 rfl)
  have c_SMALL : GC mg "SMALL" (.str "abcdefghijklmnopqrstuvwxyz") := gcs X G (c.fact 203 rfl)
  have c_MOST_PARTS : GC mg "MOST_PARTS" (.int 4) := gci X G (c.fact 204 rfl)
  have t_NoLine : PySem.W.typeIn K (.ref (He.ga K "NoLine")) = some (.type "type") := of_decide_eq_true (c.fact 205 rfl)
  have b_NoLine : PySem.W.subIn K (.ref (He.ga K "NoLine")) (.type "BaseException") = some true := of_decide_eq_true (c.fact 206 rfl)
  have t_NoFinder : PySem.W.typeIn K (.ref (He.ga K "NoFinder")) = some (.type "type") := of_decide_eq_true (c.fact 207 rfl)
  have b_NoFinder : PySem.W.subIn K (.ref (He.ga K "NoFinder")) (.type "BaseException") = some true := of_decide_eq_true (c.fact 208 rfl)
  have t_NoStore : PySem.W.typeIn K (.ref (He.ga K "NoStore")) = some (.type "type") := of_decide_eq_true (c.fact 209 rfl)
  have b_NoStore : PySem.W.subIn K (.ref (He.ga K "NoStore")) (.type "BaseException") = some true := of_decide_eq_true (c.fact 210 rfl)
  have k_NoStore : PySem.W.keepIn K (.ref (He.ga K "NoStore")) = true := (c.fact 211 rfl)
  have x_NoStore : PySem.W.excIn K (He.ga K "NoStore") [.type "ValueError", .type "Exception", .type "BaseException", .type "object"] "ValueError.__new__" = true := (c.fact 212 rfl)
  have k_NoLine : PySem.W.keepIn K (.ref (He.ga K "NoLine")) = true := (c.fact 213 rfl)
  have x_NoLine : PySem.W.excIn K (He.ga K "NoLine") [.type "ValueError", .type "Exception", .type "BaseException", .type "object"] "ValueError.__new__" = true := (c.fact 214 rfl)
  have k_NoFinder : PySem.W.keepIn K (.ref (He.ga K "NoFinder")) = true := (c.fact 215 rfl)
  have x_NoFinder : PySem.W.excIn K (He.ga K "NoFinder") [.type "ValueError", .type "Exception", .type "BaseException", .type "object"] "ValueError.__new__" = true := (c.fact 216 rfl)
  obtain ⟨fd0, F0⟩ := c.def_ 0 (d := hd0) rfl
  obtain ⟨fd1, F1⟩ := c.def_ 1 (d := hd1) rfl
  obtain ⟨fd2, F2⟩ := c.def_ 2 (d := hd2) rfl
  obtain ⟨fd3, F3⟩ := c.def_ 3 (d := hd3) rfl
  obtain ⟨fd4, F4⟩ := c.def_ 4 (d := hd4) rfl
  obtain ⟨fd5, F5⟩ := c.def_ 5 (d := hd5) rfl
  obtain ⟨fd6, F6⟩ := c.def_ 6 (d := hd6) rfl
  obtain ⟨fd7, F7⟩ := c.def_ 7 (d := hd7) rfl
  obtain ⟨fd8, F8⟩ := c.def_ 8 (d := hd8) rfl
  obtain ⟨fd9, F9⟩ := c.def_ 9 (d := hd9) rfl
  obtain ⟨fd10, F10⟩ := c.def_ 10 (d := hd10) rfl
  obtain ⟨fd11, F11⟩ := c.def_ 11 (d := hd11) rfl
  obtain ⟨fd12, F12⟩ := c.def_ 12 (d := hd12) rfl
  obtain ⟨fd13, F13⟩ := c.def_ 13 (d := hd13) rfl
  obtain ⟨fd14, F14⟩ := c.def_ 14 (d := hd14) rfl
  obtain ⟨fd15, F15⟩ := c.def_ 15 (d := hd15) rfl
  obtain ⟨fd16, F16⟩ := c.def_ 16 (d := hd16) rfl
  obtain ⟨fd17, F17⟩ := c.def_ 17 (d := hd17) rfl
  obtain ⟨fd18, F18⟩ := c.def_ 18 (d := hd18) rfl
  obtain ⟨fd19, F19⟩ := c.def_ 19 (d := hd19) rfl
  obtain ⟨fd20, F20⟩ := c.def_ 20 (d := hd20) rfl
  obtain ⟨fd21, F21⟩ := c.def_ 21 (d := hd21) rfl
  obtain ⟨fd22, F22⟩ := c.def_ 22 (d := hd22) rfl
  obtain ⟨fd23, F23⟩ := c.def_ 23 (d := hd23) rfl
  obtain ⟨fd24, F24⟩ := c.def_ 24 (d := hd24) rfl
  obtain ⟨fd25, F25⟩ := c.def_ 25 (d := hd25) rfl
  obtain ⟨fd26, F26⟩ := c.def_ 26 (d := hd26) rfl
  obtain ⟨fd27, F27⟩ := c.def_ 27 (d := hd27) rfl
  obtain ⟨fd28, F28⟩ := c.def_ 28 (d := hd28) rfl
  obtain ⟨fd29, F29⟩ := c.def_ 29 (d := hd29) rfl
  obtain ⟨fd30, F30⟩ := c.def_ 30 (d := hd30) rfl
  have e := hfa.symm.trans (PySem.W.mg_of X G a30)
  cases e
  have T : Glb ⟨K, fun i => [0, (He.ga K "NoStore"), (He.ga K "NoFinder"), 0, (He.ga K "NoLine"), 0, 0, 0, 0, 0, 0, 0, 0, 0, (He.ga K "Store"), (He.ga K "Lists"), (He.ga K "Forms"), (He.ga K "Along"), (He.ga K "Built"), (He.ga K "Other"), (He.ga K "Barred"), (He.ga K "Hall"), (He.ga K "Hand"), 0, (He.ga K "Module"), 0, 0, 0, 0, 0, 0, 0, 0, 0, 0, 0, 0, 0, 0, 0, 0, 0, 0, 0, 0, 0, 0, 0, 0, 0, 0, 0, 0, (DM.kwA ("Hall", some "__init__") "path" K), 0, 0, 0, 0, 0, 0, 0, 0, 0, 0, (He.ga K "CHECKS")].getD i 0⟩ mg := { tab := tabOf_ok (fun _ h => nomatch h) (fun _ h => nomatch h) (fun _ h => nomatch h), g_NoStore := PySem.W.mg_of X G g_NoStore, g_NoFinder := PySem.W.mg_of X G g_NoFinder, g_NoLine := PySem.W.mg_of X G g_NoLine, g_Store := PySem.W.mg_of X G g_Store, g_Lists := PySem.W.mg_of X G g_Lists, g_Forms := PySem.W.mg_of X G g_Forms, g_Along := PySem.W.mg_of X G g_Along, g_Built := PySem.W.mg_of X G g_Built, g_Other := PySem.W.mg_of X G g_Other, g_Barred := PySem.W.mg_of X G g_Barred, g_Hall := PySem.W.mg_of X G g_Hall, g_Hand := PySem.W.mg_of X G g_Hand, g_Module := PySem.W.mg_of X G g_Module, q_Hall := kt11, g_CHECKS := PySem.W.mg_of X G g_CHECKS, kt_CHECKS := kt_CHECKS, z_isinstance := PySem.W.mg_none_of X G z_isinstance, z_str := PySem.W.mg_none_of X G z_str, z_len := PySem.W.mg_none_of X G z_len, z_all := PySem.W.mg_none_of X G z_all, z_tuple := PySem.W.mg_none_of X G z_tuple, z_range := PySem.W.mg_none_of X G z_range, z_int := PySem.W.mg_none_of X G z_int, z_sorted := PySem.W.mg_none_of X G z_sorted, c_LONGEST := c_LONGEST, c_SMALL := c_SMALL, c_MOST_PARTS := c_MOST_PARTS, x_NoStore := x_NoStore, k_NoStore := k_NoStore, b_NoStore := b_NoStore, t_NoStore := t_NoStore, x_NoLine := x_NoLine, k_NoLine := k_NoLine, b_NoLine := b_NoLine, t_NoLine := t_NoLine, x_NoFinder := x_NoFinder, k_NoFinder := k_NoFinder, b_NoFinder := b_NoFinder, t_NoFinder := t_NoFinder, ni := fldT_ok (List.forall_mem_cons.mpr ⟨⟨⟨pg_Store, hd_Store, po_Store, sa_Store⟩, na_Store_name⟩, (List.forall_mem_cons.mpr ⟨⟨⟨pg_Store, hd_Store, po_Store, sa_Store⟩, na_Store_bodies⟩, (List.forall_mem_cons.mpr ⟨⟨⟨pg_Store, hd_Store, po_Store, sa_Store⟩, na_Store_changed⟩, (List.forall_mem_cons.mpr ⟨⟨⟨pg_Lists, hd_Lists, po_Lists, sa_Lists⟩, na_Lists_known⟩, (List.forall_mem_cons.mpr ⟨⟨⟨pg_Forms, hd_Forms, po_Forms, sa_Forms⟩, na_Forms_check⟩, (List.forall_mem_cons.mpr ⟨⟨⟨pg_Forms, hd_Forms, po_Forms, sa_Forms⟩, na_Forms_read⟩, (List.forall_mem_cons.mpr ⟨⟨⟨pg_Forms, hd_Forms, po_Forms, sa_Forms⟩, na_Forms_made⟩, (List.forall_mem_cons.mpr ⟨⟨⟨pg_Forms, hd_Forms, po_Forms, sa_Forms⟩, na_Forms_kept⟩, (List.forall_mem_cons.mpr ⟨⟨⟨pg_Along, hd_Along, po_Along, sa_Along⟩, na_Along_word⟩, (List.forall_mem_cons.mpr ⟨⟨⟨pg_Built, hd_Built, po_Built, sa_Built⟩, na_Built_word⟩, (List.forall_mem_cons.mpr ⟨⟨⟨pg_Built, hd_Built, po_Built, sa_Built⟩, na_Built_built⟩, (List.forall_mem_cons.mpr ⟨⟨⟨pg_Other, hd_Other, po_Other, sa_Other⟩, na_Other_word⟩, (List.forall_mem_cons.mpr ⟨⟨⟨pg_Other, hd_Other, po_Other, sa_Other⟩, na_Other_old⟩, (List.forall_mem_cons.mpr ⟨⟨⟨pg_Other, hd_Other, po_Other, sa_Other⟩, na_Other_new⟩, (List.forall_mem_cons.mpr ⟨⟨⟨pg_Barred, hd_Barred, po_Barred, sa_Barred⟩, na_Barred_word⟩, (List.forall_mem_cons.mpr ⟨⟨⟨pg_Barred, hd_Barred, po_Barred, sa_Barred⟩, na_Barred_barred⟩, (List.forall_mem_cons.mpr ⟨⟨⟨pg_Hall, hd_Hall, po_Hall, sa_Hall⟩, na_Hall_clock⟩, (List.forall_mem_cons.mpr ⟨⟨⟨pg_Hall, hd_Hall, po_Hall, sa_Hall⟩, na_Hall_lists⟩, (List.forall_mem_cons.mpr ⟨⟨⟨pg_Hall, hd_Hall, po_Hall, sa_Hall⟩, na_Hall_forms⟩, (List.forall_mem_cons.mpr ⟨⟨⟨pg_Hall, hd_Hall, po_Hall, sa_Hall⟩, na_Hall_finders⟩, (List.forall_mem_cons.mpr ⟨⟨⟨pg_Hall, hd_Hall, po_Hall, sa_Hall⟩, na_Hall_path⟩, (List.forall_mem_cons.mpr ⟨⟨⟨pg_Hall, hd_Hall, po_Hall, sa_Hall⟩, na_Hall_stores⟩, (List.forall_mem_cons.mpr ⟨⟨⟨pg_Hall, hd_Hall, po_Hall, sa_Hall⟩, na_Hall_modules⟩, (List.forall_mem_cons.mpr ⟨⟨⟨pg_Hall, hd_Hall, po_Hall, sa_Hall⟩, na_Hall_table⟩, (List.forall_mem_cons.mpr ⟨⟨⟨pg_Hall, hd_Hall, po_Hall, sa_Hall⟩, na_Hall_workers⟩, (List.forall_mem_cons.mpr ⟨⟨⟨pg_Hall, hd_Hall, po_Hall, sa_Hall⟩, na_Hall_log⟩, (List.forall_mem_cons.mpr ⟨⟨⟨pg_Hall, hd_Hall, po_Hall, sa_Hall⟩, na_Hall_marks⟩, (List.forall_mem_cons.mpr ⟨⟨⟨pg_Hand, hd_Hand, po_Hand, sa_Hand⟩, na_Hand_word⟩, (List.forall_mem_cons.mpr ⟨⟨⟨pg_Hand, hd_Hand, po_Hand, sa_Hand⟩, na_Hand_module⟩, (List.forall_mem_cons.mpr ⟨⟨⟨pg_Hand, hd_Hand, po_Hand, sa_Hand⟩, na_Hand_tasks⟩, (List.forall_mem_cons.mpr ⟨⟨⟨pg_Hand, hd_Hand, po_Hand, sa_Hand⟩, na_Hand_had⟩, (List.forall_mem_cons.mpr ⟨⟨⟨pg_Hand, hd_Hand, po_Hand, sa_Hand⟩, na_Hand_begun⟩, (List.forall_mem_cons.mpr ⟨⟨⟨pg_Hand, hd_Hand, po_Hand, sa_Hand⟩, na_Hand_sleeper⟩, (List.forall_mem_cons.mpr ⟨⟨⟨pg_Module, hd_Module, po_Module, sa_Module⟩, na_Module_number⟩, (List.forall_mem_cons.mpr ⟨⟨⟨pg_Module, hd_Module, po_Module, sa_Module⟩, na_Module_name⟩, (List.forall_mem_cons.mpr ⟨⟨⟨pg_Module, hd_Module, po_Module, sa_Module⟩, na_Module_state⟩, (List.forall_mem_cons.mpr ⟨⟨⟨pg_Module, hd_Module, po_Module, sa_Module⟩, na_Module_places⟩, (List.forall_mem_cons.mpr ⟨⟨⟨pg_Module, hd_Module, po_Module, sa_Module⟩, na_Module_doer⟩, (List.forall_mem_cons.mpr ⟨⟨⟨pg_Module, hd_Module, po_Module, sa_Module⟩, na_Module_worths⟩, (List.forall_mem_cons.mpr ⟨⟨⟨pg_Module, hd_Module, po_Module, sa_Module⟩, na_Module_sums⟩, (List.forall_mem_cons.mpr ⟨⟨⟨pg_Module, hd_Module, po_Module, sa_Module⟩, na_Module_shown⟩, (List.forall_mem_cons.mpr ⟨⟨⟨pg_Module, hd_Module, po_Module, sa_Module⟩, na_Module_body⟩, (fun _ h => nomatch h)⟩)⟩)⟩)⟩)⟩)⟩)⟩)⟩)⟩)⟩)⟩)⟩)⟩)⟩)⟩)⟩)⟩)⟩)⟩)⟩)⟩)⟩)⟩)⟩)⟩)⟩)⟩)⟩)⟩)⟩)⟩)⟩)⟩)⟩)⟩)⟩)⟩)⟩)⟩)⟩)⟩)⟩), nx := fldX_ok (fun _ h => nomatch h) }
  refine ⟨_, fun s v => (FunD.bindsA (ps := ["_law_script"]) F30 fun _ _ _ _ _ _ us hl => match us, hl with | [_], _ => rfl) s [v] rfl, fun base _ _ => ?_⟩
  have D_is_part : DefM l.prog w K mg base "is_part" s_is_part 1 ["thing"] [] (FM ⟨K, fun i => [0, (He.ga K "NoStore"), (He.ga K "NoFinder"), 0, (He.ga K "NoLine"), 0, 0, 0, 0, 0, 0, 0, 0, 0, (He.ga K "Store"), (He.ga K "Lists"), (He.ga K "Forms"), (He.ga K "Along"), (He.ga K "Built"), (He.ga K "Other"), (He.ga K "Barred"), (He.ga K "Hall"), (He.ga K "Hand"), 0, (He.ga K "Module"), 0, 0, 0, 0, 0, 0, 0, 0, 0, 0, 0, 0, 0, 0, 0, 0, 0, 0, 0, 0, 0, 0, 0, 0, 0, 0, 0, 0, (DM.kwA ("Hall", some "__init__") "path" K), 0, 0, 0, 0, 0, 0, 0, 0, 0, 0, (He.ga K "CHECKS")].getD i 0⟩ m_is_part) := ⟨⟨_, _, F0, ok_is_part F0 T , PySem.W.mg_of X G a0⟩⟩
  have D_look_at_path : DefM l.prog w K mg base "look_at_path" s_look_at_path 2 ["thing"] [] (FM ⟨K, fun i => [0, (He.ga K "NoStore"), (He.ga K "NoFinder"), 0, (He.ga K "NoLine"), 0, 0, 0, 0, 0, 0, 0, 0, 0, (He.ga K "Store"), (He.ga K "Lists"), (He.ga K "Forms"), (He.ga K "Along"), (He.ga K "Built"), (He.ga K "Other"), (He.ga K "Barred"), (He.ga K "Hall"), (He.ga K "Hand"), 0, (He.ga K "Module"), 0, 0, 0, 0, 0, 0, 0, 0, 0, 0, 0, 0, 0, 0, 0, 0, 0, 0, 0, 0, 0, 0, 0, 0, 0, 0, 0, 0, (DM.kwA ("Hall", some "__init__") "path" K), 0, 0, 0, 0, 0, 0, 0, 0, 0, 0, (He.ga K "CHECKS")].getD i 0⟩ m_look_at_path) := ⟨⟨_, _, F1, ok_look_at_path F1 T D_is_part, PySem.W.mg_of X G a1⟩⟩
  have D_Lists___init__ : DefI l.prog w K mg base (He.ga K "Lists") "Lists.__init__" s_Lists___init__ 1 ["self"] [] (FM ⟨K, fun i => [0, (He.ga K "NoStore"), (He.ga K "NoFinder"), 0, (He.ga K "NoLine"), 0, 0, 0, 0, 0, 0, 0, 0, 0, (He.ga K "Store"), (He.ga K "Lists"), (He.ga K "Forms"), (He.ga K "Along"), (He.ga K "Built"), (He.ga K "Other"), (He.ga K "Barred"), (He.ga K "Hall"), (He.ga K "Hand"), 0, (He.ga K "Module"), 0, 0, 0, 0, 0, 0, 0, 0, 0, 0, 0, 0, 0, 0, 0, 0, 0, 0, 0, 0, 0, 0, 0, 0, 0, 0, 0, 0, (DM.kwA ("Hall", some "__init__") "path" K), 0, 0, 0, 0, 0, 0, 0, 0, 0, 0, (He.ga K "CHECKS")].getD i 0⟩ m_Lists___init__) := ⟨⟨_, _, F2, ok_Lists___init__ F2 T , ⟨mk_Lists, a2, fn2, kp_Lists⟩⟩⟩
  have D_look_at_check : DefM l.prog w K mg base "look_at_check" s_look_at_check 1 ["thing"] [] (FM ⟨K, fun i => [0, (He.ga K "NoStore"), (He.ga K "NoFinder"), 0, (He.ga K "NoLine"), 0, 0, 0, 0, 0, 0, 0, 0, 0, (He.ga K "Store"), (He.ga K "Lists"), (He.ga K "Forms"), (He.ga K "Along"), (He.ga K "Built"), (He.ga K "Other"), (He.ga K "Barred"), (He.ga K "Hall"), (He.ga K "Hand"), 0, (He.ga K "Module"), 0, 0, 0, 0, 0, 0, 0, 0, 0, 0, 0, 0, 0, 0, 0, 0, 0, 0, 0, 0, 0, 0, 0, 0, 0, 0, 0, 0, (DM.kwA ("Hall", some "__init__") "path" K), 0, 0, 0, 0, 0, 0, 0, 0, 0, 0, (He.ga K "CHECKS")].getD i 0⟩ m_look_at_check) := ⟨⟨_, _, F3, ok_look_at_check F3 T , PySem.W.mg_of X G a3⟩⟩
  have D_Forms___init__ : DefI l.prog w K mg base (He.ga K "Forms") "Forms.__init__" s_Forms___init__ 2 ["self", "check"] [("check", .str "stamp")] (FM ⟨K, fun i => [0, (He.ga K "NoStore"), (He.ga K "NoFinder"), 0, (He.ga K "NoLine"), 0, 0, 0, 0, 0, 0, 0, 0, 0, (He.ga K "Store"), (He.ga K "Lists"), (He.ga K "Forms"), (He.ga K "Along"), (He.ga K "Built"), (He.ga K "Other"), (He.ga K "Barred"), (He.ga K "Hall"), (He.ga K "Hand"), 0, (He.ga K "Module"), 0, 0, 0, 0, 0, 0, 0, 0, 0, 0, 0, 0, 0, 0, 0, 0, 0, 0, 0, 0, 0, 0, 0, 0, 0, 0, 0, 0, (DM.kwA ("Hall", some "__init__") "path" K), 0, 0, 0, 0, 0, 0, 0, 0, 0, 0, (He.ga K "CHECKS")].getD i 0⟩ m_Forms___init__) := ⟨⟨_, _, F4, ok_Forms___init__ F4 T D_look_at_check, ⟨mk_Forms, a4, fn4, kp_Forms⟩⟩⟩
  have D_Hand___init__ : DefI l.prog w K mg base (He.ga K "Hand") "Hand.__init__" s_Hand___init__ 1 ["self", "word", "module"] [] (FM ⟨K, fun i => [0, (He.ga K "NoStore"), (He.ga K "NoFinder"), 0, (He.ga K "NoLine"), 0, 0, 0, 0, 0, 0, 0, 0, 0, (He.ga K "Store"), (He.ga K "Lists"), (He.ga K "Forms"), (He.ga K "Along"), (He.ga K "Built"), (He.ga K "Other"), (He.ga K "Barred"), (He.ga K "Hall"), (He.ga K "Hand"), 0, (He.ga K "Module"), 0, 0, 0, 0, 0, 0, 0, 0, 0, 0, 0, 0, 0, 0, 0, 0, 0, 0, 0, 0, 0, 0, 0, 0, 0, 0, 0, 0, (DM.kwA ("Hall", some "__init__") "path" K), 0, 0, 0, 0, 0, 0, 0, 0, 0, 0, (He.ga K "CHECKS")].getD i 0⟩ m_Hand___init__) := ⟨⟨_, _, F5, ok_Hand___init__ F5 T , ⟨mk_Hand, a5, fn5, kp_Hand⟩⟩⟩
  have D_Module___init__ : DefI l.prog w K mg base (He.ga K "Module") "Module.__init__" s_Module___init__ 1 ["self", "number", "name", "state", "places", "doer"] [("places", .non), ("doer", .non)] (FM ⟨K, fun i => [0, (He.ga K "NoStore"), (He.ga K "NoFinder"), 0, (He.ga K "NoLine"), 0, 0, 0, 0, 0, 0, 0, 0, 0, (He.ga K "Store"), (He.ga K "Lists"), (He.ga K "Forms"), (He.ga K "Along"), (He.ga K "Built"), (He.ga K "Other"), (He.ga K "Barred"), (He.ga K "Hall"), (He.ga K "Hand"), 0, (He.ga K "Module"), 0, 0, 0, 0, 0, 0, 0, 0, 0, 0, 0, 0, 0, 0, 0, 0, 0, 0, 0, 0, 0, 0, 0, 0, 0, 0, 0, 0, (DM.kwA ("Hall", some "__init__") "path" K), 0, 0, 0, 0, 0, 0, 0, 0, 0, 0, (He.ga K "CHECKS")].getD i 0⟩ m_Module___init__) := ⟨⟨_, _, F6, ok_Module___init__ F6 T , ⟨mk_Module, a6, fn6, kp_Module⟩⟩⟩
  have D_new_module : DefM l.prog w K mg base "new_module" s_new_module 3 ["hall", "name", "state", "places", "doer"] [("places", .non), ("doer", .non)] (FM ⟨K, fun i => [0, (He.ga K "NoStore"), (He.ga K "NoFinder"), 0, (He.ga K "NoLine"), 0, 0, 0, 0, 0, 0, 0, 0, 0, (He.ga K "Store"), (He.ga K "Lists"), (He.ga K "Forms"), (He.ga K "Along"), (He.ga K "Built"), (He.ga K "Other"), (He.ga K "Barred"), (He.ga K "Hall"), (He.ga K "Hand"), 0, (He.ga K "Module"), 0, 0, 0, 0, 0, 0, 0, 0, 0, 0, 0, 0, 0, 0, 0, 0, 0, 0, 0, 0, 0, 0, 0, 0, 0, 0, 0, 0, (DM.kwA ("Hall", some "__init__") "path" K), 0, 0, 0, 0, 0, 0, 0, 0, 0, 0, (He.ga K "CHECKS")].getD i 0⟩ m_new_module) := ⟨⟨_, _, F7, ok_new_module F7 T D_Module___init__, PySem.W.mg_of X G a7⟩⟩
  have D_hand_of : DefM l.prog w K mg base "hand_of" s_hand_of 4 ["hall", "word"] [] (FM ⟨K, fun i => [0, (He.ga K "NoStore"), (He.ga K "NoFinder"), 0, (He.ga K "NoLine"), 0, 0, 0, 0, 0, 0, 0, 0, 0, (He.ga K "Store"), (He.ga K "Lists"), (He.ga K "Forms"), (He.ga K "Along"), (He.ga K "Built"), (He.ga K "Other"), (He.ga K "Barred"), (He.ga K "Hall"), (He.ga K "Hand"), 0, (He.ga K "Module"), 0, 0, 0, 0, 0, 0, 0, 0, 0, 0, 0, 0, 0, 0, 0, 0, 0, 0, 0, 0, 0, 0, 0, 0, 0, 0, 0, 0, (DM.kwA ("Hall", some "__init__") "path" K), 0, 0, 0, 0, 0, 0, 0, 0, 0, 0, (He.ga K "CHECKS")].getD i 0⟩ m_hand_of) := ⟨⟨_, _, F8, ok_hand_of F8 T D_Hand___init__ D_new_module, PySem.W.mg_of X G a8⟩⟩
  have D_Along___init__ : DefI l.prog w K mg base (He.ga K "Along") "Along.__init__" s_Along___init__ 1 ["self"] [] (FM ⟨K, fun i => [0, (He.ga K "NoStore"), (He.ga K "NoFinder"), 0, (He.ga K "NoLine"), 0, 0, 0, 0, 0, 0, 0, 0, 0, (He.ga K "Store"), (He.ga K "Lists"), (He.ga K "Forms"), (He.ga K "Along"), (He.ga K "Built"), (He.ga K "Other"), (He.ga K "Barred"), (He.ga K "Hall"), (He.ga K "Hand"), 0, (He.ga K "Module"), 0, 0, 0, 0, 0, 0, 0, 0, 0, 0, 0, 0, 0, 0, 0, 0, 0, 0, 0, 0, 0, 0, 0, 0, 0, 0, 0, 0, (DM.kwA ("Hall", some "__init__") "path" K), 0, 0, 0, 0, 0, 0, 0, 0, 0, 0, (He.ga K "CHECKS")].getD i 0⟩ m_Along___init__) := ⟨⟨_, _, F9, ok_Along___init__ F9 T , ⟨mk_Along, a9, fn9, kp_Along⟩⟩⟩
  have D_Store___init__ : DefI l.prog w K mg base (He.ga K "Store") "Store.__init__" s_Store___init__ 2 ["self", "name"] [] (FM ⟨K, fun i => [0, (He.ga K "NoStore"), (He.ga K "NoFinder"), 0, (He.ga K "NoLine"), 0, 0, 0, 0, 0, 0, 0, 0, 0, (He.ga K "Store"), (He.ga K "Lists"), (He.ga K "Forms"), (He.ga K "Along"), (He.ga K "Built"), (He.ga K "Other"), (He.ga K "Barred"), (He.ga K "Hall"), (He.ga K "Hand"), 0, (He.ga K "Module"), 0, 0, 0, 0, 0, 0, 0, 0, 0, 0, 0, 0, 0, 0, 0, 0, 0, 0, 0, 0, 0, 0, 0, 0, 0, 0, 0, 0, (DM.kwA ("Hall", some "__init__") "path" K), 0, 0, 0, 0, 0, 0, 0, 0, 0, 0, (He.ga K "CHECKS")].getD i 0⟩ m_Store___init__) := ⟨⟨_, _, F10, ok_Store___init__ F10 T D_is_part, ⟨mk_Store, a10, fn10, kp_Store⟩⟩⟩
  have D_Hall___init__ : DefI l.prog w K mg base (He.ga K "Hall") "Hall.__init__" s_Hall___init__ 5 ["self", "path", "check"] [("path", .ref (DM.kwA ("Hall", some "__init__") "path" K)), ("check", .str "stamp")] (FM ⟨K, fun i => [0, (He.ga K "NoStore"), (He.ga K "NoFinder"), 0, (He.ga K "NoLine"), 0, 0, 0, 0, 0, 0, 0, 0, 0, (He.ga K "Store"), (He.ga K "Lists"), (He.ga K "Forms"), (He.ga K "Along"), (He.ga K "Built"), (He.ga K "Other"), (He.ga K "Barred"), (He.ga K "Hall"), (He.ga K "Hand"), 0, (He.ga K "Module"), 0, 0, 0, 0, 0, 0, 0, 0, 0, 0, 0, 0, 0, 0, 0, 0, 0, 0, 0, 0, 0, 0, 0, 0, 0, 0, 0, 0, (DM.kwA ("Hall", some "__init__") "path" K), 0, 0, 0, 0, 0, 0, 0, 0, 0, 0, (He.ga K "CHECKS")].getD i 0⟩ m_Hall___init__) := ⟨⟨_, _, F11, ok_Hall___init__ F11 T D_look_at_path D_Lists___init__ D_Forms___init__ D_hand_of D_Along___init__ D_Store___init__, ⟨mk_Hall, a11, fn11, kp_Hall⟩⟩⟩
  have D_law_mixed : DefM l.prog w K mg base "_law_mixed" s_law_mixed 1 ["_law_cell_here", "_law_k"] [] (FM ⟨K, fun i => [0, (He.ga K "NoStore"), (He.ga K "NoFinder"), 0, (He.ga K "NoLine"), 0, 0, 0, 0, 0, 0, 0, 0, 0, (He.ga K "Store"), (He.ga K "Lists"), (He.ga K "Forms"), (He.ga K "Along"), (He.ga K "Built"), (He.ga K "Other"), (He.ga K "Barred"), (He.ga K "Hall"), (He.ga K "Hand"), 0, (He.ga K "Module"), 0, 0, 0, 0, 0, 0, 0, 0, 0, 0, 0, 0, 0, 0, 0, 0, 0, 0, 0, 0, 0, 0, 0, 0, 0, 0, 0, 0, (DM.kwA ("Hall", some "__init__") "path" K), 0, 0, 0, 0, 0, 0, 0, 0, 0, 0, (He.ga K "CHECKS")].getD i 0⟩ m_law_mixed) := ⟨⟨_, _, F12, ok_law_mixed F12 T , PySem.W.mg_of X G a12⟩⟩
  have D_law_cell : DefM l.prog w K mg base "_law_cell" s_law_cell 2 ["_law_script", "_law_k"] [] (FM ⟨K, fun i => [0, (He.ga K "NoStore"), (He.ga K "NoFinder"), 0, (He.ga K "NoLine"), 0, 0, 0, 0, 0, 0, 0, 0, 0, (He.ga K "Store"), (He.ga K "Lists"), (He.ga K "Forms"), (He.ga K "Along"), (He.ga K "Built"), (He.ga K "Other"), (He.ga K "Barred"), (He.ga K "Hall"), (He.ga K "Hand"), 0, (He.ga K "Module"), 0, 0, 0, 0, 0, 0, 0, 0, 0, 0, 0, 0, 0, 0, 0, 0, 0, 0, 0, 0, 0, 0, 0, 0, 0, 0, 0, 0, (DM.kwA ("Hall", some "__init__") "path" K), 0, 0, 0, 0, 0, 0, 0, 0, 0, 0, (He.ga K "CHECKS")].getD i 0⟩ m_law_cell) := ⟨⟨_, _, F13, ok_law_cell F13 T D_law_mixed, PySem.W.mg_of X G a13⟩⟩
  have D_law_take : DefM l.prog w K mg base "_law_take" s_law_take 1 ["_law_pile", "_law_size"] [] (FM ⟨K, fun i => [0, (He.ga K "NoStore"), (He.ga K "NoFinder"), 0, (He.ga K "NoLine"), 0, 0, 0, 0, 0, 0, 0, 0, 0, (He.ga K "Store"), (He.ga K "Lists"), (He.ga K "Forms"), (He.ga K "Along"), (He.ga K "Built"), (He.ga K "Other"), (He.ga K "Barred"), (He.ga K "Hall"), (He.ga K "Hand"), 0, (He.ga K "Module"), 0, 0, 0, 0, 0, 0, 0, 0, 0, 0, 0, 0, 0, 0, 0, 0, 0, 0, 0, 0, 0, 0, 0, 0, 0, 0, 0, 0, (DM.kwA ("Hall", some "__init__") "path" K), 0, 0, 0, 0, 0, 0, 0, 0, 0, 0, (He.ga K "CHECKS")].getD i 0⟩ m_law_take) := ⟨⟨_, _, F14, ok_law_take F14 T , PySem.W.mg_of X G a14⟩⟩
  have D_no_finder : DefM l.prog w K mg base "no_finder" s_no_finder 1 [] [] (FM ⟨K, fun i => [0, (He.ga K "NoStore"), (He.ga K "NoFinder"), 0, (He.ga K "NoLine"), 0, 0, 0, 0, 0, 0, 0, 0, 0, (He.ga K "Store"), (He.ga K "Lists"), (He.ga K "Forms"), (He.ga K "Along"), (He.ga K "Built"), (He.ga K "Other"), (He.ga K "Barred"), (He.ga K "Hall"), (He.ga K "Hand"), 0, (He.ga K "Module"), 0, 0, 0, 0, 0, 0, 0, 0, 0, 0, 0, 0, 0, 0, 0, 0, 0, 0, 0, 0, 0, 0, 0, 0, 0, 0, 0, 0, (DM.kwA ("Hall", some "__init__") "path" K), 0, 0, 0, 0, 0, 0, 0, 0, 0, 0, (He.ga K "CHECKS")].getD i 0⟩ m_no_finder) := ⟨⟨_, _, F15, ok_no_finder F15 T , PySem.W.mg_of X G a15⟩⟩
  have D_is_name : DefM l.prog w K mg base "is_name" s_is_name 2 ["thing"] [] (FM ⟨K, fun i => [0, (He.ga K "NoStore"), (He.ga K "NoFinder"), 0, (He.ga K "NoLine"), 0, 0, 0, 0, 0, 0, 0, 0, 0, (He.ga K "Store"), (He.ga K "Lists"), (He.ga K "Forms"), (He.ga K "Along"), (He.ga K "Built"), (He.ga K "Other"), (He.ga K "Barred"), (He.ga K "Hall"), (He.ga K "Hand"), 0, (He.ga K "Module"), 0, 0, 0, 0, 0, 0, 0, 0, 0, 0, 0, 0, 0, 0, 0, 0, 0, 0, 0, 0, 0, 0, 0, 0, 0, 0, 0, 0, (DM.kwA ("Hall", some "__init__") "path" K), 0, 0, 0, 0, 0, 0, 0, 0, 0, 0, (He.ga K "CHECKS")].getD i 0⟩ m_is_name) := ⟨⟨_, _, F16, ok_is_name F16 T D_is_part, PySem.W.mg_of X G a16⟩⟩
  have D_Barred___init__ : DefI l.prog w K mg base (He.ga K "Barred") "Barred.__init__" s_Barred___init__ 3 ["self", "names"] [] (FM ⟨K, fun i => [0, (He.ga K "NoStore"), (He.ga K "NoFinder"), 0, (He.ga K "NoLine"), 0, 0, 0, 0, 0, 0, 0, 0, 0, (He.ga K "Store"), (He.ga K "Lists"), (He.ga K "Forms"), (He.ga K "Along"), (He.ga K "Built"), (He.ga K "Other"), (He.ga K "Barred"), (He.ga K "Hall"), (He.ga K "Hand"), 0, (He.ga K "Module"), 0, 0, 0, 0, 0, 0, 0, 0, 0, 0, 0, 0, 0, 0, 0, 0, 0, 0, 0, 0, 0, 0, 0, 0, 0, 0, 0, 0, (DM.kwA ("Hall", some "__init__") "path" K), 0, 0, 0, 0, 0, 0, 0, 0, 0, 0, (He.ga K "CHECKS")].getD i 0⟩ m_Barred___init__) := ⟨⟨_, _, F17, ok_Barred___init__ F17 T D_no_finder D_is_name, ⟨mk_Barred, a17, fn17, kp_Barred⟩⟩⟩
  have D_Built___init__ : DefI l.prog w K mg base (He.ga K "Built") "Built.__init__" s_Built___init__ 3 ["self", "bodies"] [] (FM ⟨K, fun i => [0, (He.ga K "NoStore"), (He.ga K "NoFinder"), 0, (He.ga K "NoLine"), 0, 0, 0, 0, 0, 0, 0, 0, 0, (He.ga K "Store"), (He.ga K "Lists"), (He.ga K "Forms"), (He.ga K "Along"), (He.ga K "Built"), (He.ga K "Other"), (He.ga K "Barred"), (He.ga K "Hall"), (He.ga K "Hand"), 0, (He.ga K "Module"), 0, 0, 0, 0, 0, 0, 0, 0, 0, 0, 0, 0, 0, 0, 0, 0, 0, 0, 0, 0, 0, 0, 0, 0, 0, 0, 0, 0, (DM.kwA ("Hall", some "__init__") "path" K), 0, 0, 0, 0, 0, 0, 0, 0, 0, 0, (He.ga K "CHECKS")].getD i 0⟩ m_Built___init__) := ⟨⟨_, _, F18, ok_Built___init__ F18 T D_no_finder D_is_name, ⟨mk_Built, a18, fn18, kp_Built⟩⟩⟩
  have D_Other___init__ : DefI l.prog w K mg base (He.ga K "Other") "Other.__init__" s_Other___init__ 3 ["self", "old", "new"] [] (FM ⟨K, fun i => [0, (He.ga K "NoStore"), (He.ga K "NoFinder"), 0, (He.ga K "NoLine"), 0, 0, 0, 0, 0, 0, 0, 0, 0, (He.ga K "Store"), (He.ga K "Lists"), (He.ga K "Forms"), (He.ga K "Along"), (He.ga K "Built"), (He.ga K "Other"), (He.ga K "Barred"), (He.ga K "Hall"), (He.ga K "Hand"), 0, (He.ga K "Module"), 0, 0, 0, 0, 0, 0, 0, 0, 0, 0, 0, 0, 0, 0, 0, 0, 0, 0, 0, 0, 0, 0, 0, 0, 0, 0, 0, 0, (DM.kwA ("Hall", some "__init__") "path" K), 0, 0, 0, 0, 0, 0, 0, 0, 0, 0, (He.ga K "CHECKS")].getD i 0⟩ m_Other___init__) := ⟨⟨_, _, F19, ok_Other___init__ F19 T D_no_finder D_is_name, ⟨mk_Other, a19, fn19, kp_Other⟩⟩⟩
  have D_law_made : DefM l.prog w K mg base "_law_made" s_law_made 5 ["_law_which", "_law_told", "_law_turn"] [] (FM ⟨K, fun i => [0, (He.ga K "NoStore"), (He.ga K "NoFinder"), 0, (He.ga K "NoLine"), 0, 0, 0, 0, 0, 0, 0, 0, 0, (He.ga K "Store"), (He.ga K "Lists"), (He.ga K "Forms"), (He.ga K "Along"), (He.ga K "Built"), (He.ga K "Other"), (He.ga K "Barred"), (He.ga K "Hall"), (He.ga K "Hand"), 0, (He.ga K "Module"), 0, 0, 0, 0, 0, 0, 0, 0, 0, 0, 0, 0, 0, 0, 0, 0, 0, 0, 0, 0, 0, 0, 0, 0, 0, 0, 0, 0, (DM.kwA ("Hall", some "__init__") "path" K), 0, 0, 0, 0, 0, 0, 0, 0, 0, 0, (He.ga K "CHECKS")].getD i 0⟩ m_law_made) := ⟨⟨_, _, F20, ok_law_made F20 T D_Barred___init__ D_Built___init__ D_Other___init__, PySem.W.mg_of X G a20⟩⟩
  have D_law_due : DefM l.prog w K mg base "_law_due" s_law_due 1 ["_law_which", "_law_told", "_law_name_tolds"] [] (FM ⟨K, fun i => [0, (He.ga K "NoStore"), (He.ga K "NoFinder"), 0, (He.ga K "NoLine"), 0, 0, 0, 0, 0, 0, 0, 0, 0, (He.ga K "Store"), (He.ga K "Lists"), (He.ga K "Forms"), (He.ga K "Along"), (He.ga K "Built"), (He.ga K "Other"), (He.ga K "Barred"), (He.ga K "Hall"), (He.ga K "Hand"), 0, (He.ga K "Module"), 0, 0, 0, 0, 0, 0, 0, 0, 0, 0, 0, 0, 0, 0, 0, 0, 0, 0, 0, 0, 0, 0, 0, 0, 0, 0, 0, 0, (DM.kwA ("Hall", some "__init__") "path" K), 0, 0, 0, 0, 0, 0, 0, 0, 0, 0, (He.ga K "CHECKS")].getD i 0⟩ m_law_due) := ⟨⟨_, _, F21, ok_law_due F21 T , PySem.W.mg_of X G a21⟩⟩
  have D_Built_find : DefN l.prog w K mg base (He.ga K "Built") "find" "Built.find" s_Built_find 1 ["self", "name", "places", "hall"] [] (FM ⟨K, fun i => [0, (He.ga K "NoStore"), (He.ga K "NoFinder"), 0, (He.ga K "NoLine"), 0, 0, 0, 0, 0, 0, 0, 0, 0, (He.ga K "Store"), (He.ga K "Lists"), (He.ga K "Forms"), (He.ga K "Along"), (He.ga K "Built"), (He.ga K "Other"), (He.ga K "Barred"), (He.ga K "Hall"), (He.ga K "Hand"), 0, (He.ga K "Module"), 0, 0, 0, 0, 0, 0, 0, 0, 0, 0, 0, 0, 0, 0, 0, 0, 0, 0, 0, 0, 0, 0, 0, 0, 0, 0, 0, 0, (DM.kwA ("Hall", some "__init__") "path" K), 0, 0, 0, 0, 0, 0, 0, 0, 0, 0, (He.ga K "CHECKS")].getD i 0⟩ m_Built_find) := ⟨⟨_, _, F22, ok_Built_find F22 T , ⟨pg_Built, hd_Built, po_Built, sa_Built⟩, ⟨a22, fn22, k22⟩⟩⟩
  have D_Other_find : DefN l.prog w K mg base (He.ga K "Other") "find" "Other.find" s_Other_find 1 ["self", "name", "places", "hall"] [] (FM ⟨K, fun i => [0, (He.ga K "NoStore"), (He.ga K "NoFinder"), 0, (He.ga K "NoLine"), 0, 0, 0, 0, 0, 0, 0, 0, 0, (He.ga K "Store"), (He.ga K "Lists"), (He.ga K "Forms"), (He.ga K "Along"), (He.ga K "Built"), (He.ga K "Other"), (He.ga K "Barred"), (He.ga K "Hall"), (He.ga K "Hand"), 0, (He.ga K "Module"), 0, 0, 0, 0, 0, 0, 0, 0, 0, 0, 0, 0, 0, 0, 0, 0, 0, 0, 0, 0, 0, 0, 0, 0, 0, 0, 0, 0, (DM.kwA ("Hall", some "__init__") "path" K), 0, 0, 0, 0, 0, 0, 0, 0, 0, 0, (He.ga K "CHECKS")].getD i 0⟩ m_Other_find) := ⟨⟨_, _, F23, ok_Other_find F23 T , ⟨pg_Other, hd_Other, po_Other, sa_Other⟩, ⟨a23, fn23, k23⟩⟩⟩
  have D_Barred_find : DefN l.prog w K mg base (He.ga K "Barred") "find" "Barred.find" s_Barred_find 1 ["self", "name", "places", "hall"] [] (FM ⟨K, fun i => [0, (He.ga K "NoStore"), (He.ga K "NoFinder"), 0, (He.ga K "NoLine"), 0, 0, 0, 0, 0, 0, 0, 0, 0, (He.ga K "Store"), (He.ga K "Lists"), (He.ga K "Forms"), (He.ga K "Along"), (He.ga K "Built"), (He.ga K "Other"), (He.ga K "Barred"), (He.ga K "Hall"), (He.ga K "Hand"), 0, (He.ga K "Module"), 0, 0, 0, 0, 0, 0, 0, 0, 0, 0, 0, 0, 0, 0, 0, 0, 0, 0, 0, 0, 0, 0, 0, 0, 0, 0, 0, 0, (DM.kwA ("Hall", some "__init__") "path" K), 0, 0, 0, 0, 0, 0, 0, 0, 0, 0, (He.ga K "CHECKS")].getD i 0⟩ m_Barred_find) := ⟨⟨_, _, F24, ok_Barred_find F24 T , ⟨pg_Barred, hd_Barred, po_Barred, sa_Barred⟩, ⟨a24, fn24, k24⟩⟩⟩
  have D_law_good : DefM l.prog w K mg base "_law_good" s_law_good 6 ["_law_which", "_law_told", "_law_names_told", "_law_hall_told"] [] (FM ⟨K, fun i => [0, (He.ga K "NoStore"), (He.ga K "NoFinder"), 0, (He.ga K "NoLine"), 0, 0, 0, 0, 0, 0, 0, 0, 0, (He.ga K "Store"), (He.ga K "Lists"), (He.ga K "Forms"), (He.ga K "Along"), (He.ga K "Built"), (He.ga K "Other"), (He.ga K "Barred"), (He.ga K "Hall"), (He.ga K "Hand"), 0, (He.ga K "Module"), 0, 0, 0, 0, 0, 0, 0, 0, 0, 0, 0, 0, 0, 0, 0, 0, 0, 0, 0, 0, 0, 0, 0, 0, 0, 0, 0, 0, (DM.kwA ("Hall", some "__init__") "path" K), 0, 0, 0, 0, 0, 0, 0, 0, 0, 0, (He.ga K "CHECKS")].getD i 0⟩ m_law_good) := ⟨⟨_, _, F25, ok_law_good F25 T D_law_made D_law_due D_Built_find D_Other_find D_Barred_find, PySem.W.mg_of X G a25⟩⟩
  have D_Hall_told : DefN l.prog w K mg base (He.ga K "Hall") "told" "Hall.told" s_Hall_told 1 ["self"] [] (FM ⟨K, fun i => [0, (He.ga K "NoStore"), (He.ga K "NoFinder"), 0, (He.ga K "NoLine"), 0, 0, 0, 0, 0, 0, 0, 0, 0, (He.ga K "Store"), (He.ga K "Lists"), (He.ga K "Forms"), (He.ga K "Along"), (He.ga K "Built"), (He.ga K "Other"), (He.ga K "Barred"), (He.ga K "Hall"), (He.ga K "Hand"), 0, (He.ga K "Module"), 0, 0, 0, 0, 0, 0, 0, 0, 0, 0, 0, 0, 0, 0, 0, 0, 0, 0, 0, 0, 0, 0, 0, 0, 0, 0, 0, 0, (DM.kwA ("Hall", some "__init__") "path" K), 0, 0, 0, 0, 0, 0, 0, 0, 0, 0, (He.ga K "CHECKS")].getD i 0⟩ m_Hall_told) := ⟨⟨_, _, F26, ok_Hall_told F26 T , ⟨pg_Hall, hd_Hall, po_Hall, sa_Hall⟩, ⟨a26, fn26, k26⟩⟩⟩
  have D_law_part_drawn : DefM l.prog w K mg base "_law_part_drawn" s_law_part_drawn 2 ["_law_pile"] [] (FM ⟨K, fun i => [0, (He.ga K "NoStore"), (He.ga K "NoFinder"), 0, (He.ga K "NoLine"), 0, 0, 0, 0, 0, 0, 0, 0, 0, (He.ga K "Store"), (He.ga K "Lists"), (He.ga K "Forms"), (He.ga K "Along"), (He.ga K "Built"), (He.ga K "Other"), (He.ga K "Barred"), (He.ga K "Hall"), (He.ga K "Hand"), 0, (He.ga K "Module"), 0, 0, 0, 0, 0, 0, 0, 0, 0, 0, 0, 0, 0, 0, 0, 0, 0, 0, 0, 0, 0, 0, 0, 0, 0, 0, 0, 0, (DM.kwA ("Hall", some "__init__") "path" K), 0, 0, 0, 0, 0, 0, 0, 0, 0, 0, (He.ga K "CHECKS")].getD i 0⟩ m_law_part_drawn) := ⟨⟨_, _, F27, ok_law_part_drawn F27 T D_law_take, PySem.W.mg_of X G a27⟩⟩
  have D_law_name_drawn : DefM l.prog w K mg base "_law_name_drawn" s_law_name_drawn 3 ["_law_pile", "_law_most"] [] (FM ⟨K, fun i => [0, (He.ga K "NoStore"), (He.ga K "NoFinder"), 0, (He.ga K "NoLine"), 0, 0, 0, 0, 0, 0, 0, 0, 0, (He.ga K "Store"), (He.ga K "Lists"), (He.ga K "Forms"), (He.ga K "Along"), (He.ga K "Built"), (He.ga K "Other"), (He.ga K "Barred"), (He.ga K "Hall"), (He.ga K "Hand"), 0, (He.ga K "Module"), 0, 0, 0, 0, 0, 0, 0, 0, 0, 0, 0, 0, 0, 0, 0, 0, 0, 0, 0, 0, 0, 0, 0, 0, 0, 0, 0, 0, (DM.kwA ("Hall", some "__init__") "path" K), 0, 0, 0, 0, 0, 0, 0, 0, 0, 0, (He.ga K "CHECKS")].getD i 0⟩ m_law_name_drawn) := ⟨⟨_, _, F28, ok_law_name_drawn F28 T D_law_part_drawn D_law_take, PySem.W.mg_of X G a28⟩⟩
  have D_law_text_drawn : DefM l.prog w K mg base "_law_text_drawn" s_law_text_drawn 2 ["_law_pile"] [] (FM ⟨K, fun i => [0, (He.ga K "NoStore"), (He.ga K "NoFinder"), 0, (He.ga K "NoLine"), 0, 0, 0, 0, 0, 0, 0, 0, 0, (He.ga K "Store"), (He.ga K "Lists"), (He.ga K "Forms"), (He.ga K "Along"), (He.ga K "Built"), (He.ga K "Other"), (He.ga K "Barred"), (He.ga K "Hall"), (He.ga K "Hand"), 0, (He.ga K "Module"), 0, 0, 0, 0, 0, 0, 0, 0, 0, 0, 0, 0, 0, 0, 0, 0, 0, 0, 0, 0, 0, 0, 0, 0, 0, 0, 0, 0, (DM.kwA ("Hall", some "__init__") "path" K), 0, 0, 0, 0, 0, 0, 0, 0, 0, 0, (He.ga K "CHECKS")].getD i 0⟩ m_law_text_drawn) := ⟨⟨_, _, F29, ok_law_text_drawn F29 T D_law_take, PySem.W.mg_of X G a29⟩⟩
  exact FnOk.law (Γ := ⟨K, fun i => [0, (He.ga K "NoStore"), (He.ga K "NoFinder"), 0, (He.ga K "NoLine"), 0, 0, 0, 0, 0, 0, 0, 0, 0, (He.ga K "Store"), (He.ga K "Lists"), (He.ga K "Forms"), (He.ga K "Along"), (He.ga K "Built"), (He.ga K "Other"), (He.ga K "Barred"), (He.ga K "Hall"), (He.ga K "Hand"), 0, (He.ga K "Module"), 0, 0, 0, 0, 0, 0, 0, 0, 0, 0, 0, 0, 0, 0, 0, 0, 0, 0, 0, 0, 0, 0, 0, 0, 0, 0, 0, 0, (DM.kwA ("Hall", some "__init__") "path" K), 0, 0, 0, 0, 0, 0, 0, 0, 0, 0, (He.ga K "CHECKS")].getD i 0⟩) (ok_law F30 T D_Hall___init__ D_law_cell D_law_take D_law_good D_Hall_told D_law_name_drawn D_law_text_drawn) law_true
end K18
open PySem PySem.W PySem.Calls PyProof.Rows
set_option maxRecDepth 100000 in
set_option maxHeartbeats 0 in
theorem PySem.Challenge.cw_loadhall_k18_other_finders_holds : PySem.Challenge.rw_loadhall_k18_other_finders.Holds := by
  w_on; o_law
  refine HandSHeadRun.head_any (r := OpenLaw.row PySem.Challenge.rw_loadhall_k18_other_finders) (q := view (OpenLaw.row PySem.Challenge.rw_loadhall_k18_other_finders).prog [124]) (H := K18.hkX) (ob := K18.obX) (M := 30000) (loose := K18.hnm) (d := HandSHeadRun.topDef (OpenLaw.row PySem.Challenge.rw_loadhall_k18_other_finders).prog 124) (kwd := []) K18.obX_eq
    (by kernel_rfl) (fun s => by kernel_rfl) K18.runX (by kernel_rfl) (by kernel_rfl) (by kernel_rfl) (by rfl) (by first | assumption | decide +kernel) (by decide +kernel) ⟨rfl, rfl, rfl, rfl, rfl, by decide +kernel⟩ ?hw ?hc
  case hw => w_witness2
  case hc =>
    refine DM.walk_ofW (l := PySem.Challenge.rw_loadhall_k18_other_finders) (n := 63) (k := 7) (x := "_law_script") (CX := fun w => L2.CX (PySem.Challenge.rw_loadhall_k18_other_finders).prog w) rfl (by decide) (by kernel_rfl) ⟨rfl, by decide, by decide⟩ ?F (fun _ _ _ _ _ h => by obtain ⟨_, _, _, _, _, _, _, _, _, _, _, _, z⟩ := h; exact z)
    intro w mg fa h Y G hmg0
    obtain ⟨K, KX, c⟩ := Y
    have hmg : mg ("law" : PySem.Str) = some (.ref fa) := by
      have e : (HandSHeadRun.topDef (OpenLaw.row PySem.Challenge.rw_loadhall_k18_other_finders).prog 124).name = ("law" : PySem.Str) := by kernel_rfl
      rw [← e]
      exact hmg0
    obtain ⟨fd, hb, hF⟩ := K18.all_mk (l := PySem.Challenge.rw_loadhall_k18_other_finders) (w := w) KX G hmg c
    exact ⟨K, fd, DM.spLaw K, KX, hb, fun H a ns hl _ hS => ⟨a, ns, rfl, hS, hl, fun _ => rfl⟩, hF⟩
