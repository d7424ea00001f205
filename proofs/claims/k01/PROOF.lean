import PyProof.Rows.All
import Wide.All
import OpenK.AllK
import Wide.FinOn
import HandS.ForMost
import HandS.ForExc
import HandS.Wide
import HandS.IsInst
import HandS.StrMore
import HandS.Defaults
import KE.DataEq
import HandS.ReplaceLit
import HandS.NoneIn
import PySem.Challenge.RW_loadhall_k01_parts_and_names
set_option Elab.async false
set_option linter.all false
set_option maxRecDepth 100000
set_option maxHeartbeats 4000000
/-! DL: a data layer over HandS. Immutable data as values (Dt), worlds (B, H): B what is known and stays, H the heap as it is. -/
namespace DL
open PySem PySem.Spec PyProof.Rows L2

inductive Dt where
  | non | bl (b : Bool) | int (i : Int) | str (s : Str) | lst (l : List Dt) | tup (l : List Dt) | loc (a : Addr) | ty (n : String)

mutual
inductive Rp (K : PySem.W.Frag) (B : Hp) : V → Dt → Prop
  | non : Rp K B .non .non
  | bl (b : Bool) : Rp K B (.bl b) (.bl b)
  | int (i : Int) : Rp K B (.int i) (.int i)
  | str (x : Str) : Rp K B (.str x) (.str x)
  | lst {a : Addr} {xs : List V} {ds : List Dt} : B a = some (.lst xs) → RpL K B xs ds → Rp K B (.ref a) (.lst ds)
  | tup {a : Addr} {xs : List V} {ds : List Dt} : B a = some (.tup xs) → RpL K B xs ds → Rp K B (.ref a) (.tup ds)
  | loc (a : Addr) : Rp K B (.ref a) (.loc a)
  | ty (n : String) : Rp K B (.ty n) (.ty n)
inductive RpL (K : PySem.W.Frag) (B : Hp) : List V → List Dt → Prop
  | nil : RpL K B [] []
  | cons {v : V} {vs : List V} {d : Dt} {ds : List Dt} : Rp K B v d → RpL K B vs ds → RpL K B (v :: vs) (d :: ds)
end
section
variable {K : PySem.W.Frag}
theorem same_seqT {H H' : Hp} {a : Addr} {xs : List V} (e : Same H H') (h : SqT K H a xs) : SqT K H' a xs := by
  rcases h with (h | ⟨o, h⟩) | h
  · exact .inl (.inl (e _ _ h))
  · exact .inl (.inr ⟨o, e _ _ h⟩)
  · exact .inr h
mutual
theorem Rp.mono {B B' : Hp} (e : Same B B') : ∀ {v : V} {d : Dt}, Rp K B v d → Rp K B' v d
  | _, _, .non => .non
  | _, _, .bl b => .bl b
  | _, _, .int i => .int i
  | _, _, .str x => .str x
  | _, _, .lst h r => .lst (e _ _ h) (RpL.mono e r)
  | _, _, .tup h r => .tup (e _ _ h) (RpL.mono e r)
  | _, _, .loc a => .loc a
  | _, _, .ty n => .ty n
theorem RpL.mono {B B' : Hp} (e : Same B B') : ∀ {v : List V} {d : List Dt}, RpL K B v d → RpL K B' v d
  | _, _, .nil => .nil
  | _, _, .cons h r => .cons (Rp.mono e h) (RpL.mono e r)
end
theorem RpL.len {B : Hp} : ∀ {vs : List V} {ds : List Dt}, RpL K B vs ds → vs.length = ds.length
  | _, _, .nil => rfl
  | _, _, .cons _ r => congrArg Nat.succ r.len
theorem RpL.app {B : Hp} : ∀ {vs ws : List V} {ds es : List Dt}, RpL K B vs ds → RpL K B ws es → RpL K B (vs ++ ws) (ds ++ es)
  | _, _, _, _, .nil, h => h
  | _, _, _, _, .cons a r, h => .cons a (r.app h)
theorem RpL.get {B : Hp} : ∀ {vs : List V} {ds : List Dt} {i : Nat} {d : Dt}, RpL K B vs ds → ds[i]? = some d → ∃ v, vs[i]? = some v ∧ Rp K B v d
  | _, _, _, _, .nil, h => by simp at h
  | _, _, 0, _, .cons a r, h => by
    simp at h
    subst h
    exact ⟨_, rfl, a⟩
  | _, _, i + 1, _, .cons a r, h => by
    rw [List.getElem?_cons_succ] at h
    obtain ⟨v, e, q⟩ := r.get h
    exact ⟨v, by simpa using e, q⟩
theorem RpL.get' {B : Hp} : ∀ {vs : List V} {ds : List Dt} {i : Nat} {v : V}, RpL K B vs ds → vs[i]? = some v → ∃ d, ds[i]? = some d ∧ Rp K B v d
  | _, _, _, _, .nil, h => by simp at h
  | _, _, 0, _, .cons a r, h => by
    simp at h
    subst h
    exact ⟨_, rfl, a⟩
  | _, _, i + 1, _, .cons a r, h => by
    rw [List.getElem?_cons_succ] at h
    obtain ⟨v, e, q⟩ := r.get' h
    exact ⟨v, by simpa using e, q⟩
theorem RpL.take {B : Hp} : ∀ {vs : List V} {ds : List Dt} (n : Nat), RpL K B vs ds → RpL K B (vs.take n) (ds.take n)
  | _, _, 0, _ => .nil
  | _, _, _ + 1, .nil => .nil
  | _, _, n + 1, .cons a r => .cons a (r.take n)
theorem RpL.drop {B : Hp} : ∀ {vs : List V} {ds : List Dt} (n : Nat), RpL K B vs ds → RpL K B (vs.drop n) (ds.drop n)
  | _, _, 0, h => h
  | _, _, _ + 1, .nil => .nil
  | _, _, n + 1, .cons a r => r.drop n
theorem RpL.set {B : Hp} : ∀ {vs : List V} {ds : List Dt} {v : V} {d : Dt} (n : Nat), RpL K B vs ds → Rp K B v d → RpL K B (vs.set n v) (ds.set n d)
  | _, _, _, _, _, .nil, _ => .nil
  | _, _, _, _, 0, .cons a r, h => .cons h r
  | _, _, _, _, n + 1, .cons a r, h => .cons a (r.set n h)
/-- texts -/
theorem RpL.strs {B : Hp} : ∀ (ys : List Str), RpL K B (ys.map V.str) (ys.map Dt.str)
  | [] => .nil
  | y :: ys => .cons (.str y) (RpL.strs ys)
theorem RpL.ints {B : Hp} : ∀ (ys : List Int), RpL K B (ys.map V.int) (ys.map Dt.int)
  | [] => .nil
  | y :: ys => .cons (.int y) (RpL.ints ys)
theorem RpL.bls {B : Hp} : ∀ (ys : List Bool), RpL K B (ys.map V.bl) (ys.map Dt.bl)
  | [] => .nil
  | y :: ys => .cons (.bl y) (RpL.bls ys)
theorem RpL.of_strs {B : Hp} : ∀ {ys : List Str} {vs : List V}, RpL K B vs (ys.map Dt.str) → vs = ys.map V.str
  | [], _, h => by cases h; rfl
  | y :: ys, _, h => by
    cases h with
    | cons a r =>
      cases a
      rw [RpL.of_strs r]
      rfl
theorem RpL.of_ints {B : Hp} : ∀ {ys : List Int} {vs : List V}, RpL K B vs (ys.map Dt.int) → vs = ys.map V.int
  | [], _, h => by cases h; rfl
  | y :: ys, _, h => by
    cases h with
    | cons a r =>
      cases a
      rw [RpL.of_ints r]
      rfl
theorem RpL.of_bls {B : Hp} : ∀ {ys : List Bool} {vs : List V}, RpL K B vs (ys.map Dt.bl) → vs = ys.map V.bl
  | [], _, h => by cases h; rfl
  | y :: ys, _, h => by
    cases h with
    | cons a r =>
      cases a
      rw [RpL.of_bls r]
      rfl
end

/-! ### worlds -/
structure Pu (B H B' H' : Hp) : Prop where
  b : Same B B'
  x : Same B' H'
  hid : ∀ a o, B a = none → H a = some o → B' a = none ∧ H' a = some o
theorem Pu.refl {B H : Hp} (e : Same B H) : Pu B H B H := ⟨Same.refl B, e, fun _ _ h1 h2 => ⟨h1, h2⟩⟩
theorem Pu.trans {B H B1 H1 B2 H2 : Hp} (p : Pu B H B1 H1) (q : Pu B1 H1 B2 H2) : Pu B H B2 H2 :=
  ⟨p.b.trans q.b, q.x, fun a o h1 h2 => let ⟨x, y⟩ := p.hid a o h1 h2; q.hid a o x y⟩
theorem Pu.hh {B H B' H' : Hp} (e : Same B H) (p : Pu B H B' H') : Same H H' := fun a o h => by
  cases q : B a with
  | none => exact (p.hid a o q h).2
  | some u =>
    have h' := e a u q
    rw [h] at h'
    cases h'
    exact p.x a o (p.b a o q)
theorem same_upd {H : Hp} {p : Addr} {o : HO} (h : H p = none) : Same H (upd H p o) := fun b x e => by
  rw [upd_ne (ne_of_none e h)]
  exact e
theorem same_upd2 {B H : Hp} {p : Addr} {o : HO} (e : Same B H) : Same (upd B p o) (upd H p o) := fun b x h => by
  by_cases hb : b = p
  · subst hb
    rw [upd_same] at h ⊢
    exact h
  · rw [upd_ne hb] at h ⊢
    exact e b x h
theorem same_hid {B H : Hp} {p : Addr} {o : HO} (e : Same B H) (h : B p = none) : Same B (upd H p o) := fun b x q => by
  rw [upd_ne (ne_of_none q h)]
  exact e b x q
/-- a new object, known from then on -/
theorem Pu.new {B H : Hp} {p : Addr} {o : HO} (e : Same B H) (h : H p = none) : Pu B H (upd B p o) (upd H p o) :=
  ⟨same_upd (e.free h), same_upd2 e, fun a u h1 h2 => by
    have hp : a ≠ p := ne_of_none h2 h
    rw [upd_ne hp, upd_ne hp]
    exact ⟨h1, h2⟩⟩
/-- a new object that may change -/
theorem Pu.newH {B H : Hp} {p : Addr} {o : HO} (e : Same B H) (h : H p = none) : Pu B H B (upd H p o) :=
  ⟨Same.refl B, same_hid e (e.free h), fun a u h1 h2 => by
    have hp : a ≠ p := ne_of_none h2 h
    rw [upd_ne hp]
    exact ⟨h1, h2⟩⟩
/-- a hidden object is known from then on -/
theorem Pu.show {B H B' H' : Hp} {p : Addr} {o : HO} (q : Pu B H B' H') (hn : H p = none) (hb : B' p = none) (h : H' p = some o) : Pu B H (upd B' p o) H' :=
  ⟨q.b.trans (same_upd hb), fun a u e => by
    by_cases ha : a = p
    · subst ha
      rw [upd_same] at e
      cases e
      exact h
    · rw [upd_ne ha] at e
      exact q.x a u e, fun a u h1 h2 => by
    have hp : a ≠ p := ne_of_none h2 hn
    rw [upd_ne hp]
    exact q.hid a u h1 h2⟩
theorem pu_mono {K : PySem.W.Frag} {B H B' H' : Hp} {v : V} {d : Dt} (p : Pu B H B' H') (h : Rp K B v d) : Rp K B' v d := h.mono p.b

/-! ### what evaluates to what data -/
abbrev KD (K : PySem.W.Frag) (B1 H1 : Hp) (d : Dt) (Q : VK) : Prop := ∀ v B2 H2, Pu B1 H1 B2 H2 → Rp K B2 v d → Q v H2
def ED (K : PySem.W.Frag) (t : TE) (σ : L2.St) (B : Hp) (d : Dt) : Prop := ∀ B1 H1, Same B B1 → Same B1 H1 → ∀ Q : VK, KD K B1 H1 d Q → t σ H1 Q
/-- a new list -/
def EL (K : PySem.W.Frag) (t : TE) (σ : L2.St) (B : Hp) (ds : List Dt) : Prop := ∀ B1 H1, Same B B1 → Same B1 H1 → ∀ Q : VK,
  (∀ p xs B2 H2, Pu B1 H1 B2 H2 → H1 p = none → B2 p = none → H2 p = some (.lst xs) → RpL K B2 xs ds → Q (.ref p) H2) → t σ H1 Q
def EA (K : PySem.W.Frag) (t : TA) (σ : L2.St) (B : Hp) (ds : List Dt) : Prop := ∀ B1 H1, Same B B1 → Same B1 H1 → ∀ Q : List V → Hp → Prop, (∀ vs B2 H2, Pu B1 H1 B2 H2 → RpL K B2 vs ds → Q vs H2) → t σ H1 Q
def ET (t : TT) (σ : L2.St) (B : Hp) (b : Bool) : Prop := ∀ B1 H1, Same B B1 → Same B1 H1 → ∀ Q : Bool → Hp → Prop, (∀ B2 H2, Pu B1 H1 B2 H2 → Q b H2) → t σ H1 Q
/-- operations on values, by data -/
def RD (K : PySem.W.Frag) (r : R2) (a b c : Dt) : Prop := ∀ B H x y, Same B H → Rp K B x a → Rp K B y b → ∀ Q : VK, KD K B H c Q → r x y H Q
def RU (K : PySem.W.Frag) (r : V → Hp → VK → Prop) (a c : Dt) : Prop := ∀ B H x, Same B H → Rp K B x a → ∀ Q : VK, KD K B H c Q → r x H Q
def RC (K : PySem.W.Frag) (r : List V → Hp → VK → Prop) (ds : List Dt) (c : Dt) : Prop := ∀ B H xs, Same B H → RpL K B xs ds → ∀ Q : VK, KD K B H c Q → r xs H Q
def RM (K : PySem.W.Frag) (r : V → List V → Hp → VK → Prop) (a : Dt) (ds : List Dt) (c : Dt) : Prop := ∀ B H x xs, Same B H → Rp K B x a → RpL K B xs ds → ∀ Q : VK, KD K B H c Q → r x xs H Q
section
variable {K : PySem.W.Frag} {σ : L2.St} {B B' : Hp} {ta tb te tx : TE} {t u : TT} {a b c d : Dt} {r : R2} {ds es : List Dt}
theorem ED.mono (e : Same B B') (h : ED K te σ B d) : ED K te σ B' d := fun B1 H1 e1 => h B1 H1 (e.trans e1)
theorem ET.mono {k : Bool} (e : Same B B') (h : ET t σ B k) : ET t σ B' k := fun B1 H1 e1 => h B1 H1 (e.trans e1)
theorem EL.ed (h : EL K te σ B ds) : ED K te σ B (.lst ds) := fun B1 H1 e1 e2 Q q => h B1 H1 e1 e2 Q fun p xs B2 H2 pu hn hb hp hr =>
  q (.ref p) (upd B2 p (.lst xs)) H2 (pu.show hn hb hp) (.lst upd_same (hr.mono (same_upd hb)))
theorem ed_var {i : Nat} {v : V} (h : σ[i]? = some (some v)) (hr : Rp K B v d) : ED K (tVar i) σ B d := fun B1 H1 e1 e2 Q q => ⟨v, h, q v B1 H1 (Pu.refl e2) (hr.mono e1)⟩
theorem ed_c {v : V} (hr : Rp K B v d) : ED K (tC v) σ B d := fun B1 H1 e1 e2 Q q => q v B1 H1 (Pu.refl e2) (hr.mono e1)
theorem ed_op (ha : ED K ta σ B a) (hb : ED K tb σ B b) (hr : RD K r a b c) : ED K (tOp r ta tb) σ B c := fun B1 H1 e1 e2 Q q =>
  ha B1 H1 e1 e2 _ fun x B2 H2 p2 rx => hb B2 H2 (e1.trans p2.b) p2.x _ fun y B3 H3 p3 ry => hr B3 H3 x y p3.x (rx.mono p3.b) ry Q fun v B4 H4 p4 rv => q v B4 H4 ((p2.trans p3).trans p4) rv
theorem ed_un {r : V → Hp → VK → Prop} (ha : ED K ta σ B a) (hr : RU K r a c) : ED K (tUn r ta) σ B c := fun B1 H1 e1 e2 Q q =>
  ha B1 H1 e1 e2 _ fun x B2 H2 p2 rx => hr B2 H2 x p2.x rx Q fun v B4 H4 p4 rv => q v B4 H4 (p2.trans p4) rv
theorem ea_nil : EA K tNil σ B [] := fun B1 H1 _ e2 Q q => q [] B1 H1 (Pu.refl e2) .nil
theorem ea_cons {tr : TA} (h : ED K ta σ B d) (hr : EA K tr σ B ds) : EA K (tCons ta tr) σ B (d :: ds) := fun B1 H1 e1 e2 Q q =>
  h B1 H1 e1 e2 _ fun x B2 H2 p2 rx => hr B2 H2 (e1.trans p2.b) p2.x _ fun xs B3 H3 p3 rxs => q (x :: xs) B3 H3 (p2.trans p3) (.cons (rx.mono p3.b) rxs)
theorem el_lst {t : TA} (h : EA K t σ B ds) (hl : ds.length ≤ 1000000) : EL K (tLst t) σ B ds := fun B1 H1 e1 e2 Q q =>
  h B1 H1 e1 e2 _ fun xs B2 H2 p2 rx => ⟨by rw [rx.len]; exact Nat.le_trans hl (by decide), fun p hp => by
    have hn : H1 p = none := (p2.hh e2).free hp
    exact q p xs B2 (upd H2 p (.lst xs)) (p2.trans (Pu.newH p2.x hp)) hn (p2.x.free hp) upd_same rx⟩
theorem ed_lst {t : TA} (h : EA K t σ B ds) (hl : ds.length ≤ 1000000) : ED K (tLst t) σ B (.lst ds) := (el_lst h hl).ed
theorem ed_tup {t : TA} (h : EA K t σ B ds) (hl : ds.length ≤ 1000000) : ED K (tTup t) σ B (.tup ds) := fun B1 H1 e1 e2 Q q =>
  h B1 H1 e1 e2 _ fun xs B2 H2 p2 rx => ⟨by rw [rx.len]; exact Nat.le_trans hl (by decide), fun p hp =>
    q (.ref p) (upd B2 p (.tup xs)) (upd H2 p (.tup xs)) (p2.trans (Pu.new p2.x hp)) (.tup upd_same (rx.mono (same_upd (p2.x.free hp))))⟩
theorem ed_cb {r : List V → Hp → VK → Prop} {t : TA} (h : EA K t σ B ds) (hr : RC K r ds c) : ED K (tCB r t) σ B c := fun B1 H1 e1 e2 Q q =>
  h B1 H1 e1 e2 _ fun xs B2 H2 p2 rx => hr B2 H2 xs p2.x rx Q fun v B4 H4 p4 rv => q v B4 H4 (p2.trans p4) rv
/-- what built-in type a value of data is of -/
def tyD (T : String) : Dt → Prop
  | .str _ => T = "str"
  | .lst _ => T = "list"
  | .int _ => T = "int"
  | _ => False
end
end DL

set_option linter.all false
set_option maxRecDepth 100000
set_option maxHeartbeats 4000000
namespace DL
open PySem PySem.Spec PyProof.Rows L2

/-! ### data for the library's == -/
mutual
def toP : Dt → PyData
  | .non => .none
  | .bl b => .bool b
  | .int i => .int i
  | .str s => .str s
  | .lst l => .list (toPs l)
  | .tup l => .tuple (toPs l)
  | .loc _ => .none
  | .ty _ => .none
def toPs : List Dt → List PyData
  | [] => []
  | d :: ds => toP d :: toPs ds
end
mutual
/-- no places of objects, at most n deep -/
def okD : Nat → Dt → Bool
  | _, .non => true
  | _, .bl _ => true
  | _, .int _ => true
  | _, .str _ => true
  | _, .loc _ => false
  | _, .ty _ => false
  | 0, .lst _ => false
  | 0, .tup _ => false
  | n + 1, .lst l => okDs n l
  | n + 1, .tup l => okDs n l
def okDs : Nat → List Dt → Bool
  | _, [] => true
  | n, d :: ds => okD n d && okDs n ds
end
theorem okDs_all (n : Nat) : ∀ l : List Dt, okDs n l = l.all (okD n)
  | [] => by simp [okDs]
  | d :: l => by simp [okDs, okDs_all n l]
mutual
theorem Rp.dp {K : PySem.W.Frag} {B : Hp} : ∀ {n : Nat} {v : V} {d : Dt}, Rp K B v d → okD n d = true → Dp K B v (toP d)
  | _, _, _, .non, _ => .non
  | _, _, _, .bl b, _ => .bl b
  | _, _, _, .int i, _ => .int i
  | _, _, _, .str x, _ => .str x
  | 0, _, _, .lst h r, k => by simp [okD] at k
  | 0, _, _, .tup h r, k => by simp [okD] at k
  | n + 1, _, _, .lst h r, k => by
    rw [okD] at k
    exact .lst (.inl (.inl h)) (RpL.dp r k)
  | n + 1, _, _, .tup h r, k => by
    rw [okD] at k
    exact .tup (.inl (.inl h)) (RpL.dp r k)
  | 0, _, _, .loc a, k => by simp [okD] at k
  | n + 1, _, _, .loc a, k => by simp [okD] at k
  | 0, _, _, .ty a, k => by simp [okD] at k
  | n + 1, _, _, .ty a, k => by simp [okD] at k
theorem RpL.dp {K : PySem.W.Frag} {B : Hp} : ∀ {n : Nat} {v : List V} {d : List Dt}, RpL K B v d → okDs n d = true → DpAll K B v (toPs d)
  | _, _, _, .nil, _ => .nil
  | n, _, _, .cons a r, k => by
    rw [okDs, Bool.and_eq_true] at k
    exact .cons (Rp.dp a k.1) (RpL.dp r k.2)
end
mutual
theorem toP_plain : ∀ d : Dt, (toP d).plain = true
  | .non => rfl
  | .bl _ => rfl
  | .int _ => rfl
  | .str _ => rfl
  | .loc _ => rfl
  | .ty _ => rfl
  | .lst l => by rw [toP, PyData.plain]; exact toPs_plain l
  | .tup l => by rw [toP, PyData.plain]; exact toPs_plain l
theorem toPs_plain : ∀ d : List Dt, PyData.plainAll (toPs d) = true
  | [] => rfl
  | d :: ds => by rw [toPs, PyData.plainAll, toP_plain d, toPs_plain ds]; rfl
end
mutual
theorem okD_depth : ∀ {n : Nat} {d : Dt}, okD n d = true → (toP d).depth ≤ n
  | _, .non, _ => Nat.zero_le _
  | _, .bl _, _ => Nat.zero_le _
  | _, .int _, _ => Nat.zero_le _
  | _, .str _, _ => Nat.zero_le _
  | _, .loc _, _ => Nat.zero_le _
  | _, .ty _, _ => Nat.zero_le _
  | 0, .lst _, k => by simp [okD] at k
  | 0, .tup _, k => by simp [okD] at k
  | n + 1, .lst l, k => by
    rw [okD] at k
    rw [toP, PyData.depth]
    exact Nat.succ_le_succ (okDs_depth k)
  | n + 1, .tup l, k => by
    rw [okD] at k
    rw [toP, PyData.depth]
    exact Nat.succ_le_succ (okDs_depth k)
theorem okDs_depth : ∀ {n : Nat} {d : List Dt}, okDs n d = true → PyData.depthAll (toPs d) ≤ n
  | _, [], _ => Nat.zero_le _
  | n, d :: ds, k => by
    rw [okDs, Bool.and_eq_true] at k
    rw [toPs, PyData.depthAll]
    exact Nat.max_le.mpr ⟨okD_depth k.1, okDs_depth k.2⟩
end
/-- Python's == of data -/
def eqD (a b : Dt) : Bool := PyData.eqv (toP a) (toP b)
theorem eqD_refl (a : Dt) : eqD a a = true := PySem.SeqAt.eqv_refl_plain _ (toP_plain a)
def uEq (K : PySem.W.Frag) : R2 := fun x y H Q => ∃ d e, Dp K H x (toP d) ∧ Dp K H y (toP e) ∧ okD 8 d = true ∧ okD 8 e = true ∧ Q (.bl (eqD d e)) H
def uNe (K : PySem.W.Frag) : R2 := fun x y H Q => ∃ d e, Dp K H x (toP d) ∧ Dp K H y (toP e) ∧ okD 8 d = true ∧ okD 8 e = true ∧ Q (.bl (!eqD d e)) H
section
variable {X : Cx}
theorem uop_eq (hu : X.A.units + 64 < cLine) : OpR X (compareOp .Eq) (uEq X.K) := by
  intro pins s σ H x y v u Q I rx ry h
  obtain ⟨d, e, hd, he, kd, ke, q⟩ := h
  obtain ⟨as, r1⟩ := Dp.reads I (toP d) x v hd rx
  obtain ⟨bs, r2⟩ := Dp.reads I (toP e) y u he ry
  refine PySem.SeqAt.eq_plain r1 r2 (toP_plain d) (toP_plain e) ?_ ⟨.bl _, H, I, rfl, q⟩
  have := okD_depth kd
  omega
theorem uop_ne (hu : X.A.units + 64 < cLine) : OpR X (compareOp .NotEq) (uNe X.K) := by
  intro pins s σ H x y v u Q I rx ry h
  obtain ⟨d, e, hd, he, kd, ke, q⟩ := h
  obtain ⟨as, r1⟩ := Dp.reads I (toP d) x v hd rx
  obtain ⟨bs, r2⟩ := Dp.reads I (toP e) y u he ry
  refine PySem.SeqAt.ne_plain r1 r2 (toP_plain d) (toP_plain e) ?_ ⟨.bl _, H, I, rfl, q⟩
  have := okD_depth kd
  omega
end
section
variable {K : PySem.W.Frag} {σ : L2.St} {B B' : Hp} {ta tb te tx : TE} {t u : TT} {a b c d : Dt} {r r' : R2} {ds es : List Dt}
theorem rd_eq (ha : okD 8 a = true) (hb : okD 8 b = true) : RD K (uEq K) a b (.bl (eqD a b)) := fun B H x y e rx ry Q q =>
  ⟨a, b, (rx.mono e).dp ha, (ry.mono e).dp hb, ha, hb, q _ B H (Pu.refl e) (.bl _)⟩
theorem rd_ne (ha : okD 8 a = true) (hb : okD 8 b = true) : RD K (uNe K) a b (.bl (!eqD a b)) := fun B H x y e rx ry Q q =>
  ⟨a, b, (rx.mono e).dp ha, (ry.mono e).dp hb, ha, hb, q _ B H (Pu.refl e) (.bl _)⟩
/-! ### operators whatever the kinds -/
theorem rd_l (h : RD K r a b c) : RD K (fun x y H Q => r x y H Q ∨ r' x y H Q) a b c := fun B H x y e rx ry Q q => .inl (h B H x y e rx ry Q q)
theorem rd_r (h : RD K r' a b c) : RD K (fun x y H Q => r x y H Q ∨ r' x y H Q) a b c := fun B H x y e rx ry Q q => .inr (h B H x y e rx ry Q q)
def rAddS : R2 := fun x y H Q => ∃ i j, x = .str i ∧ y = .str j ∧ i.length + j.length ≤ sizeLine ∧ Q (.str (i ++ j)) H
def uAdd : R2 := fun x y H Q => rI0 (fun i j => .int (i + j)) x y H Q ∨ (rAddS x y H Q ∨ rCat x y H Q)
theorem uop_add {X : Cx} : OpR X (binaryOp .Add) uAdd := op_add.or ((show OpR X (binaryOp .Add) rAddS from op_add_str).or op_cat)
theorem rd_addI (i j : Int) : RD K uAdd (.int i) (.int j) (.int (i + j)) := fun B H x y e rx ry Q q => by
  cases rx
  cases ry
  exact .inl ⟨i, j, rfl, rfl, q _ B H (Pu.refl e) (.int _)⟩
theorem rd_addS {x y : Str} (h : x.length + y.length ≤ 10000000) : RD K uAdd (.str x) (.str y) (.str (x ++ y)) := fun B H _ _ e rx ry Q q => by
  cases rx
  cases ry
  exact .inr (.inl ⟨x, y, rfl, rfl, Nat.le_trans h (by decide), q _ B H (Pu.refl e) (.str _)⟩)
theorem rd_cat (h : ds.length + es.length ≤ 1000000) : RD K uAdd (.lst ds) (.lst es) (.lst (ds ++ es)) := fun B H _ _ e rx ry Q q => by
  cases rx with
  | lst h1 r1 =>
    cases ry with
    | lst h2 r2 =>
      refine .inr (.inr ⟨_, _, _, _, rfl, rfl, e _ _ h1, e _ _ h2, by rw [r1.len, r2.len]; exact Nat.le_trans h (by decide), fun p hp => ?_⟩)
      exact q _ _ _ (Pu.new e hp) (.lst upd_same ((r1.app r2).mono (same_upd (e.free hp))))
/-- a fresh list comes of + -/
theorem el_cat (ha : ED K ta σ B (.lst ds)) (hb : ED K tb σ B (.lst es)) (h : ds.length + es.length ≤ 1000000) : EL K (tOp uAdd ta tb) σ B (ds ++ es) := fun B1 H1 e1 e2 Q q =>
  ha B1 H1 e1 e2 _ fun x B2 H2 p2 rx => hb B2 H2 (e1.trans p2.b) p2.x _ fun y B3 H3 p3 ry => by
    cases rx with
    | lst h1 r1 =>
      cases ry with
      | lst h2 r2 =>
        refine .inr (.inr ⟨_, _, _, _, rfl, rfl, p3.x _ _ (p3.b _ _ h1), p3.x _ _ h2, by rw [r1.len, r2.len]; exact Nat.le_trans h (by decide), fun p hp => ?_⟩)
        have pp := p2.trans p3
        exact q p _ B3 _ (pp.trans (Pu.newH p3.x hp)) ((pp.hh e2).free hp) (p3.x.free hp) upd_same ((r1.mono p3.b).app r2)
theorem rd_sub (i j : Int) : RD K (rI0 fun i j => .int (i - j)) (.int i) (.int j) (.int (i - j)) := fun B H x y e rx ry Q q => by
  cases rx
  cases ry
  exact ⟨i, j, rfl, rfl, q _ B H (Pu.refl e) (.int _)⟩
def uMulI : R2 := rI CMulW fun i j => .int (i * j)
theorem rd_mulI {i j : Int} (h : CMulW i j) : RD K uMulI (.int i) (.int j) (.int (i * j)) := fun B H x y e rx ry Q q => by
  cases rx
  cases ry
  exact ⟨i, j, rfl, rfl, h, q _ B H (Pu.refl e) (.int _)⟩
theorem rd_mod {i j : Int} (h : j ≠ 0) : RD K (rI (fun _ j => j ≠ 0) fun i j => .int (i.fmod j)) (.int i) (.int j) (.int (i.fmod j)) := fun B H x y e rx ry Q q => by
  cases rx
  cases ry
  exact ⟨i, j, rfl, rfl, h, q _ B H (Pu.refl e) (.int _)⟩
theorem rd_fdiv {i j : Int} (h : CDivN i j) : RD K (rI CDivN fun i j => .int (i.fdiv j)) (.int i) (.int j) (.int (i.fdiv j)) := fun B H x y e rx ry Q q => by
  cases rx
  cases ry
  exact ⟨i, j, rfl, rfl, h, q _ B H (Pu.refl e) (.int _)⟩
theorem rd_pow {i j : Int} (h : CPow i j) : RD K (rI CPow fun i j => .int (i ^ j.toNat)) (.int i) (.int j) (.int (i ^ j.toNat)) := fun B H x y e rx ry Q q => by
  cases rx
  cases ry
  exact ⟨i, j, rfl, rfl, h, q _ B H (Pu.refl e) (.int _)⟩
theorem rd_cmp {p : Int → Int → Bool} (i j : Int) : RD K (rI0 fun i j => .bl (p i j)) (.int i) (.int j) (.bl (p i j)) := fun B H x y e rx ry Q q => by
  cases rx
  cases ry
  exact ⟨i, j, rfl, rfl, q _ B H (Pu.refl e) (.bl _)⟩
theorem ru_neg (i : Int) : RU K (rU fun i => .int (-i)) (.int i) (.int (-i)) := fun B H x e rx Q q => by
  cases rx
  exact ⟨i, rfl, q _ B H (Pu.refl e) (.int _)⟩
/-- is None -/
def isNon : Dt → Bool
  | .non => true
  | _ => false
theorem Rp.isN {v : V} (h : Rp K B v d) : decide (v = .non) = isNon d := by cases h <;> simp [isNon]
theorem rd_isN : RD K (fun x y H Q => y = .non ∧ Q (.bl (decide (x = .non))) H) a .non (.bl (isNon a)) := fun B H x y e rx ry Q q => by
  cases ry
  exact ⟨rfl, by rw [rx.isN]; exact q _ B H (Pu.refl e) (.bl _)⟩
theorem rd_notN : RD K (fun x y H Q => y = .non ∧ Q (.bl (!decide (x = .non))) H) a .non (.bl (!isNon a)) := fun B H x y e rx ry Q q => by
  cases ry
  exact ⟨rfl, by rw [rx.isN]; exact q _ B H (Pu.refl e) (.bl _)⟩
/-! ### one sign in a text -/
def rInSg : R2 := fun x y H Q => ∃ (c : Nat) (z : Str), x = .str ⟨#[c]⟩ ∧ y = .str z ∧ Q (.bl (decide (c ∈ z.cps.toList))) H
theorem uop_inSg {X : Cx} : OpR X (compareOp .In) rInSg := op_in_sign
theorem rd_inSg (c : Nat) (z : Str) : RD K rInSg (.str ⟨#[c]⟩) (.str z) (.bl (decide (c ∈ z.cps.toList))) := fun B H x y e rx ry Q q => by
  cases rx
  cases ry
  exact ⟨c, z, rfl, rfl, q _ B H (Pu.refl e) (.bl _)⟩
/-! ### places of lists, tuples, texts -/
theorem RpL.atI {B : Hp} {vs : List V} {i : Int} (r : RpL K B vs ds) (h : L2.atI ds i = some d) : ∃ v, L2.atI vs i = some v ∧ Rp K B v d := by
  unfold L2.atI at h ⊢
  rw [r.len]
  cases e : ixN ds.length i with
  | none => rw [e] at h; cases h
  | some j =>
    rw [e] at h
    exact r.get h
theorem rd_ixL {i : Int} (h : atI ds i = some d) : RD K (rIx K) (.lst ds) (.int i) d := fun B H x y e rx ry Q q => by
  cases rx with
  | lst h1 r1 =>
    cases ry
    obtain ⟨v, hv, rv⟩ := r1.atI h
    exact .inl ⟨_, _, i, v, rfl, rfl, .inl (.inl (e _ _ h1)), hv, q v B H (Pu.refl e) rv⟩
theorem rd_ixT {i : Int} (h : atI ds i = some d) : RD K (rIx K) (.tup ds) (.int i) d := fun B H x y e rx ry Q q => by
  cases rx with
  | tup h1 r1 =>
    cases ry
    obtain ⟨v, hv, rv⟩ := r1.atI h
    exact .inr (.inl ⟨_, _, i, v, rfl, rfl, .inl (.inl (e _ _ h1)), hv, q v B H (Pu.refl e) rv⟩)
theorem rd_ixS {z : Str} {i : Int} {c : Nat} (hz : z.length ≤ 10000000) (h : atI z.cps.toList i = some c) : RD K (rIx K) (.str z) (.int i) (.str ⟨#[c]⟩) := fun B H x y e rx ry Q q => by
  cases rx
  cases ry
  exact .inr (.inr ⟨z, i, c, rfl, rfl, Nat.le_trans hz (by decide), h, q _ B H (Pu.refl e) (.str _)⟩)
/-! ### slices -/
def cutD {α : Type} (xs : List α) (lo hi : Option Int) : List α := (xs.drop (HT.sIx xs.length 0 lo)).take (HT.sIx xs.length xs.length hi - HT.sIx xs.length 0 lo)
theorem RpL.cut {B : Hp} {vs : List V} {lo hi : Option Int} (r : RpL K B vs ds) : RpL K B (cutV vs lo hi) (cutD ds lo hi) := by
  unfold cutV cutD
  rw [r.len]
  exact (r.drop _).take _
def EO (K : PySem.W.Frag) (t : TO) (σ : L2.St) (B : Hp) (o : Option Int) : Prop := ∀ B1 H1, Same B B1 → Same B1 H1 → ∀ Q : Option Int → Hp → Prop, (∀ B2 H2, Pu B1 H1 B2 H2 → Q o H2) → t σ H1 Q
theorem eo_none : EO K tNoPart σ B none := fun B1 H1 _ e2 Q q => q B1 H1 (Pu.refl e2)
theorem eo_some {i : Int} (h : ED K te σ B (.int i)) : EO K (tPart te) σ B (some i) := fun B1 H1 e1 e2 Q q =>
  h B1 H1 e1 e2 _ fun v B2 H2 p2 rv => by
    cases rv
    exact ⟨i, rfl, q B2 H2 p2⟩
def uSl (K : PySem.W.Frag) : V → Option Int → Option Int → Hp → VK → Prop := fun x lo hi H Q => rSlL K x lo hi H Q ∨ rSlS x lo hi H Q
theorem usl {X : Cx} : SlR X (uSl X.K) := sl_list.or sl_str
theorem el_slL {tl th : TO} {lo hi : Option Int} (h : ED K te σ B (.lst ds)) (hl : EO K tl σ B lo) (hh : EO K th σ B hi) : EL K (tSl (uSl K) te tl th) σ B (cutD ds lo hi) := fun B1 H1 e1 e2 Q q =>
  h B1 H1 e1 e2 _ fun v B2 H2 p2 rv => hl B2 H2 (e1.trans p2.b) p2.x _ fun B3 H3 p3 => hh B3 H3 ((e1.trans p2.b).trans p3.b) p3.x _ fun B4 H4 p4 => by
    cases rv with
    | lst h1 r1 =>
      refine .inl ⟨_, _, rfl, .inl (.inl (p4.x _ _ (p4.b _ _ (p3.b _ _ h1)))), fun p hp => ?_⟩
      have pp := (p2.trans p3).trans p4
      exact q p _ B4 _ (pp.trans (Pu.newH p4.x hp)) ((pp.hh e2).free hp) (p4.x.free hp) upd_same ((r1.mono (p3.b.trans p4.b)).cut)
theorem ed_slL {tl th : TO} {lo hi : Option Int} (h : ED K te σ B (.lst ds)) (hl : EO K tl σ B lo) (hh : EO K th σ B hi) : ED K (tSl (uSl K) te tl th) σ B (.lst (cutD ds lo hi)) := (el_slL h hl hh).ed
theorem ed_slS {tl th : TO} {lo hi : Option Int} {z : Str} (h : ED K te σ B (.str z)) (hl : EO K tl σ B lo) (hh : EO K th σ B hi) (hz : z.length ≤ 10000000) : ED K (tSl (uSl K) te tl th) σ B (.str (cutS z lo hi)) := fun B1 H1 e1 e2 Q q =>
  h B1 H1 e1 e2 _ fun v B2 H2 p2 rv => hl B2 H2 (e1.trans p2.b) p2.x _ fun B3 H3 p3 => hh B3 H3 ((e1.trans p2.b).trans p3.b) p3.x _ fun B4 H4 p4 => by
    cases rv
    exact .inr ⟨z, rfl, Nat.le_trans hz (by decide), q _ B4 H4 ((p2.trans p3).trans p4) (.str _)⟩
/-! ### tests, and, or, not -/
theorem et_test {k : Bool} (h : ED K te σ B (.bl k)) : ET (tTest te) σ B k := fun B1 H1 e1 e2 Q q => h B1 H1 e1 e2 _ fun v B2 H2 p2 rv => by
  cases rv
  exact ⟨k, rfl, q B2 H2 p2⟩
theorem et_B {k : Bool} (h : ED K te σ B (.bl k)) : ET (tB te) σ B k := fun B1 H1 e1 e2 Q q => h B1 H1 e1 e2 _ fun v B2 H2 p2 rv => by
  cases rv
  exact ⟨k, rfl, q B2 H2 p2⟩
theorem et_and {k l : Bool} (h1 : ET t σ B k) (h2 : k = true → ET u σ B l) : ET (tAnd t u) σ B (k && l) := fun B1 H1 e1 e2 Q q => h1 B1 H1 e1 e2 _ fun B2 H2 p2 => by
  cases k with
  | true =>
    show u σ H2 Q
    exact h2 rfl B2 H2 (e1.trans p2.b) p2.x Q fun B3 H3 p3 => q B3 H3 (p2.trans p3)
  | false =>
    show Q false H2
    exact q B2 H2 p2
theorem et_or {k l : Bool} (h1 : ET t σ B k) (h2 : k = false → ET u σ B l) : ET (tOr t u) σ B (k || l) := fun B1 H1 e1 e2 Q q => h1 B1 H1 e1 e2 _ fun B2 H2 p2 => by
  cases k with
  | true =>
    show Q true H2
    exact q B2 H2 p2
  | false =>
    show u σ H2 Q
    exact h2 rfl B2 H2 (e1.trans p2.b) p2.x Q fun B3 H3 p3 => q B3 H3 (p2.trans p3)
theorem et_not {k : Bool} (h1 : ET t σ B k) : ET (tNot t) σ B (!k) := fun B1 H1 e1 e2 Q q => h1 B1 H1 e1 e2 _ fun B2 H2 p2 => q B2 H2 p2
theorem et_is {k l : Bool} (h : ET t σ B k) (e : k = l) : ET t σ B l := e ▸ h
theorem ed_is (h : ED K te σ B c) (e : c = d) : ED K te σ B d := e ▸ h
theorem ed_andV {k l : Bool} (h1 : ED K ta σ B (.bl k)) (h2 : k = true → ED K tb σ B (.bl l)) : ED K (tAndV ta tb) σ B (.bl (k && l)) := fun B1 H1 e1 e2 Q q => h1 B1 H1 e1 e2 _ fun v B2 H2 p2 rv => by
  cases rv
  refine ⟨k, rfl, ?_⟩
  cases k with
  | true =>
    show tb σ H2 Q
    exact h2 rfl B2 H2 (e1.trans p2.b) p2.x Q fun v B3 H3 p3 => q v B3 H3 (p2.trans p3)
  | false =>
    show Q (.bl false) H2
    exact q _ B2 H2 p2 (.bl _)
theorem ed_orV {k l : Bool} (h1 : ED K ta σ B (.bl k)) (h2 : k = false → ED K tb σ B (.bl l)) : ED K (tOrV ta tb) σ B (.bl (k || l)) := fun B1 H1 e1 e2 Q q => h1 B1 H1 e1 e2 _ fun v B2 H2 p2 rv => by
  cases rv
  refine ⟨k, rfl, ?_⟩
  cases k with
  | true =>
    show Q (.bl true) H2
    exact q _ B2 H2 p2 (.bl _)
  | false =>
    show tb σ H2 Q
    exact h2 rfl B2 H2 (e1.trans p2.b) p2.x Q fun v B3 H3 p3 => q v B3 H3 (p2.trans p3)
theorem ed_notV {k : Bool} (h1 : ED K ta σ B (.bl k)) : ED K (tNotV ta) σ B (.bl (!k)) := fun B1 H1 e1 e2 Q q => h1 B1 H1 e1 e2 _ fun v B2 H2 p2 rv => by
  cases rv
  exact ⟨k, rfl, q _ B2 H2 p2 (.bl _)⟩
theorem ed_ifE {k : Bool} (h : ET t σ B k) (h1 : k = true → ED K ta σ B d) (h2 : k = false → ED K tb σ B d) : ED K (tIf t ta tb) σ B d := fun B1 H1 e1 e2 Q q => h B1 H1 e1 e2 _ fun B2 H2 p2 => by
  cases k with
  | true =>
    show ta σ H2 Q
    exact h1 rfl B2 H2 (e1.trans p2.b) p2.x Q fun v B3 H3 p3 => q v B3 H3 (p2.trans p3)
  | false =>
    show tb σ H2 Q
    exact h2 rfl B2 H2 (e1.trans p2.b) p2.x Q fun v B3 H3 p3 => q v B3 H3 (p2.trans p3)
theorem ed_chain {k l : Bool} (ha : ED K ta σ B a) (hb : ED K tb σ B b) (hr : RD K r a b (.bl k)) (hc : k = true → ED K te σ B c) (hr' : k = true → RD K r' b c (.bl l)) : ED K (tChain r r' ta tb te) σ B (.bl (k && l)) := fun B1 H1 e1 e2 Q q =>
  ha B1 H1 e1 e2 _ fun x B2 H2 p2 rx => hb B2 H2 (e1.trans p2.b) p2.x _ fun y B3 H3 p3 ry => hr B3 H3 x y p3.x (rx.mono p3.b) ry _ fun v B4 H4 p4 rv => by
    cases rv
    refine ⟨k, rfl, ?_⟩
    cases k with
    | true =>
      show te σ H4 _
      exact hc rfl B4 H4 (((e1.trans p2.b).trans p3.b).trans p4.b) p4.x _ fun w B5 H5 p5 rw => hr' rfl B5 H5 y w p5.x (ry.mono (p4.b.trans p5.b)) rw Q fun v B6 H6 p6 rv => q v B6 H6 (((((p2.trans p3).trans p4).trans p5).trans p6)) rv
    | false =>
      show Q (.bl false) H4
      exact q _ B4 H4 ((p2.trans p3).trans p4) (.bl _)
end
end DL

set_option linter.all false
set_option maxRecDepth 100000
set_option maxHeartbeats 4000000
namespace DL
open PySem PySem.Spec PyProof.Rows L2
/-! ### built-ins by data -/
section
variable {K : PySem.W.Frag} {σ : L2.St} {B B' : Hp} {ta tb te tx to : TE} {t u : TT} {a b c d : Dt} {r r' : R2} {ds es : List Dt}
def tyN : Dt → String
  | .non => "NoneType"
  | .bl _ => "bool"
  | .int _ => "int"
  | .str _ => "str"
  | .lst _ => "list"
  | .tup _ => "tuple"
  | .loc _ => ""
  | .ty _ => ""
theorem Rp.tyx {v : V} (h : Rp K B v d) (hn : tyN d ≠ "") : TyX K B v (.type (tyN d)) := by
  cases h with
  | non => exact .base .non
  | bl b => exact .base (.bl b)
  | int i => exact .base (.int i)
  | str x => exact .base (.str x)
  | lst h1 _ => exact .base (.lst h1)
  | tup h1 _ => exact .base (.tup h1)
  | loc a => exact absurd rfl hn
  | ty n => exact absurd rfl hn
theorem rc_isi {T : String} {k : Bool} (hn : tyN d ≠ "") (h : kitB (tyN d) T = some k) : RC K (rIsi K) [d, .ty T] (.bl k) := fun B H xs e rx Q q => by
  cases rx with
  | cons r1 r2 =>
    cases r2 with
    | cons r2 r3 =>
      cases r3
      cases r2
      exact ⟨_, _, _, _, k, rfl, .ty T, (r1.mono e).tyx hn, kit_ty h, q _ B H (Pu.refl e) (.bl _)⟩
theorem rc_isiK {T n : String} {k : Bool} (e : tyN d = n) (hn : n ≠ "") (h : kitB n T = some k) : RC K (rIsi K) [d, .ty T] (.bl k) := by
  subst e
  exact rc_isi hn h
local macro_rules | `(tactic| walk_at "isik") => `(tactic| first
  | exact rc_isiK (n := "NoneType") (k := true) rfl (by decide) (by decide +kernel)
  | exact rc_isiK (n := "NoneType") (k := false) rfl (by decide) (by decide +kernel)
  | exact rc_isiK (n := "bool") (k := true) rfl (by decide) (by decide +kernel)
  | exact rc_isiK (n := "bool") (k := false) rfl (by decide) (by decide +kernel)
  | exact rc_isiK (n := "int") (k := true) rfl (by decide) (by decide +kernel)
  | exact rc_isiK (n := "int") (k := false) rfl (by decide) (by decide +kernel)
  | exact rc_isiK (n := "str") (k := true) rfl (by decide) (by decide +kernel)
  | exact rc_isiK (n := "str") (k := false) rfl (by decide) (by decide +kernel)
  | exact rc_isiK (n := "list") (k := true) rfl (by decide) (by decide +kernel)
  | exact rc_isiK (n := "list") (k := false) rfl (by decide) (by decide +kernel)
  | exact rc_isiK (n := "tuple") (k := true) rfl (by decide) (by decide +kernel)
  | exact rc_isiK (n := "tuple") (k := false) rfl (by decide) (by decide +kernel))
def isStr : Dt → Bool
  | .str _ => true
  | _ => false
def isObj : Dt → Bool
  | .loc _ => true
  | .ty _ => true
  | _ => false
theorem rc_isi_str (h : isObj d = false) : RC K (rIsi K) [d, .ty "str"] (.bl (isStr d)) := by
  cases d with
  | loc a => cases h
  | ty n => cases h
  | _ => walk_at "isik"
def isBl : Dt → Bool
  | .bl _ => true
  | _ => false
theorem rc_isi_bl (h : isObj d = false) : RC K (rIsi K) [d, .ty "bool"] (.bl (isBl d)) := by
  cases d with
  | loc a => cases h
  | ty n => cases h
  | _ => walk_at "isik"
def isLst : Dt → Bool
  | .lst _ => true
  | _ => false
theorem rc_isi_lst (h : isObj d = false) : RC K (rIsi K) [d, .ty "list"] (.bl (isLst d)) := by
  cases d with
  | loc a => cases h
  | ty n => cases h
  | _ => walk_at "isik"
def isTup : Dt → Bool
  | .tup _ => true
  | _ => false
theorem rc_isi_tup (h : isObj d = false) : RC K (rIsi K) [d, .ty "tuple"] (.bl (isTup d)) := by
  cases d with
  | loc a => cases h
  | ty n => cases h
  | _ => walk_at "isik"
def rLen (K : PySem.W.Frag) : List V → Hp → VK → Prop := fun xs H Q => ∃ x n, xs = [x] ∧ LenV K x H n ∧ Q (.int n) H
theorem ucall_len {X : Cx} : CallR X (.builtin "len") (rLen X.K) := call_len
theorem rc_lenL : RC K (rLen K) [.lst ds] (.int ds.length) := fun B H xs e rx Q q => by
  cases rx with
  | cons r1 r2 =>
    cases r2
    cases r1 with
    | lst h1 r1 => exact ⟨_, _, rfl, .inl ⟨_, .inl (.inl (e _ _ h1)), r1.len.symm⟩, q _ B H (Pu.refl e) (.int _)⟩
theorem rc_lenT : RC K (rLen K) [.tup ds] (.int ds.length) := fun B H xs e rx Q q => by
  cases rx with
  | cons r1 r2 =>
    cases r2
    cases r1 with
    | tup h1 r1 => exact ⟨_, _, rfl, .inr ⟨_, .inl (.inl (e _ _ h1)), r1.len.symm⟩, q _ B H (Pu.refl e) (.int _)⟩
theorem rc_lenS {z : Str} (h : z.length ≤ 10000000) : RC K (rLen K) [.str z] (.int z.length) := fun B H xs e rx Q q => by
  cases rx with
  | cons r1 r2 =>
    cases r2
    cases r1
    exact ⟨_, _, rfl, ⟨Nat.le_trans h (by decide), rfl⟩, q _ B H (Pu.refl e) (.int _)⟩
theorem rc_all {bs : List Bool} : RC K (rAll K) [.lst (bs.map Dt.bl)] (.bl (bs.all id)) := fun B H xs e rx Q q => by
  cases rx with
  | cons r1 r2 =>
    cases r2
    cases r1 with
    | lst h1 r1 =>
      have := r1.of_bls
      subst this
      exact ⟨_, bs, rfl, .inl (.inl (e _ _ h1)), q _ B H (Pu.refl e) (.bl _)⟩
theorem rc_any {bs : List Bool} : RC K (rAny K) [.lst (bs.map Dt.bl)] (.bl (bs.any id)) := fun B H xs e rx Q q => by
  cases rx with
  | cons r1 r2 =>
    cases r2
    cases r1 with
    | lst h1 r1 =>
      have := r1.of_bls
      subst this
      exact ⟨_, bs, rfl, .inl (.inl (e _ _ h1)), q _ B H (Pu.refl e) (.bl _)⟩
def rInt1 : List V → Hp → VK → Prop := fun xs H Q => (∃ i, xs = [.int i] ∧ Q (.int i) H) ∨ ∃ k, xs = [.bl k] ∧ Q (.int (if k then 1 else 0)) H
theorem ucall_int {X : Cx} : CallR X (.type "int") rInt1 := call_int1
theorem rc_intB (k : Bool) : RC K rInt1 [.bl k] (.int (if k then 1 else 0)) := fun B H xs e rx Q q => by
  cases rx with
  | cons r1 r2 =>
    cases r2
    cases r1
    exact .inr ⟨k, rfl, q _ B H (Pu.refl e) (.int _)⟩
theorem rc_intI (k : Int) : RC K rInt1 [.int k] (.int k) := fun B H xs e rx Q q => by
  cases rx with
  | cons r1 r2 =>
    cases r2
    cases r1
    exact .inl ⟨k, rfl, q _ B H (Pu.refl e) (.int _)⟩
/-! ### methods of texts and lists -/
theorem Rp.tyv {v : V} {T : String} (h : Rp K B v d) (ht : tyD T d) : tyV K T v B := by
  cases h with
  | str x => exact ht
  | int i => exact ht
  | lst h1 _ => exact .inl ⟨ht, _, .inl (.inl h1)⟩
  | _ => exact ht.elim
theorem ed_bm {T : String} {r : V → List V → Hp → VK → Prop} {ts : TA} (ho : ED K to σ B a) (ht : tyD T a) (h : EA K ts σ B ds) (hr : RM K r a ds c) : ED K (tBM K T r to ts) σ B c := fun B1 H1 e1 e2 Q q =>
  ho B1 H1 e1 e2 _ fun x B2 H2 p2 rx => ⟨(rx.mono p2.x).tyv ht, h B2 H2 (e1.trans p2.b) p2.x _ fun xs B3 H3 p3 rxs => hr B3 H3 x xs p3.x (rx.mono p3.b) rxs Q fun v B4 H4 p4 rv => q v B4 H4 ((p2.trans p3).trans p4) rv⟩
theorem ed_bm0 {T : String} {r : V → List V → Hp → VK → Prop} (ho : ED K to σ B a) (ht : tyD T a) (hr : RM K r a [] c) : ED K (tBM0 K T r to) σ B c := fun B1 H1 e1 e2 Q q =>
  ho B1 H1 e1 e2 _ fun x B2 H2 p2 rx => ⟨(rx.mono p2.x).tyv ht, hr B2 H2 x [] p2.x rx .nil Q fun v B4 H4 p4 rv => q v B4 H4 (p2.trans p4) rv⟩
def rSplit : V → List V → Hp → VK → Prop := fun x xs H Q => ∃ a b, x = .str a ∧ xs = [.str b] ∧ (b.length == 0) = false ∧ a.length + 2 ≤ sizeLine ∧ rNewStrs (Txt.split a b) H Q
theorem umt_split {X : Cx} : MtR X "str.split" rSplit := mt_split
/-- a list of texts as data -/
def strsD (ys : List Str) : List Dt := ys.map Dt.str
theorem el_split {x y : Str} {ts : TA} (ho : ED K to σ B (.str x)) (h : EA K ts σ B [.str y]) (hy : (y.length == 0) = false) (hx : x.length ≤ 10000000) : EL K (tBM K "str" rSplit to ts) σ B (strsD (Txt.split x y)) := fun B1 H1 e1 e2 Q q =>
  ho B1 H1 e1 e2 _ fun v B2 H2 p2 rx => ⟨(rx.mono p2.x).tyv rfl, h B2 H2 (e1.trans p2.b) p2.x _ fun xs B3 H3 p3 rxs => by
    cases rx
    cases rxs with
    | cons r1 r2 =>
      cases r2
      cases r1
      refine ⟨x, y, rfl, rfl, hy, Nat.le_trans (Nat.add_le_add_right hx 2) (by decide), fun p hp => ?_⟩
      have pp := p2.trans p3
      exact q p _ B3 _ (pp.trans (Pu.newH p3.x hp)) ((pp.hh e2).free hp) (p3.x.free hp) upd_same (RpL.strs _)⟩
theorem ed_split {x y : Str} {ts : TA} (ho : ED K to σ B (.str x)) (h : EA K ts σ B [.str y]) (hy : (y.length == 0) = false) (hx : x.length ≤ 10000000) : ED K (tBM K "str" rSplit to ts) σ B (.lst (strsD (Txt.split x y))) := (el_split ho h hy hx).ed
def rJoin (K : PySem.W.Frag) : V → List V → Hp → VK → Prop := fun x xs H Q => ∃ a p, ∃ ys : List Str, x = .str a ∧ xs = [.ref p] ∧ (SqL K H p (ys.map V.str) ∨ SqT K H p (ys.map V.str)) ∧
    (ys.map (·.length)).sum + ys.length * a.length ≤ 16777216 ∧ Q (.str (Txt.join a ys)) H
theorem umt_join {X : Cx} : MtR X "str.join" (rJoin X.K) := mt_join
theorem rm_join {x : Str} {ys : List Str} (h : (ys.map (·.length)).sum + ys.length * x.length ≤ 16777216) : RM K (rJoin K) (.str x) [.lst (strsD ys)] (.str (Txt.join x ys)) := fun B H v xs e rx rxs Q q => by
  cases rx
  cases rxs with
  | cons r1 r2 =>
    cases r2
    cases r1 with
    | lst h1 r1 =>
      have := r1.of_strs
      subst this
      exact ⟨x, _, ys, rfl, rfl, .inl (.inl (.inl (e _ _ h1))), h, q _ B H (Pu.refl e) (.str _)⟩
def rStr2 (g : Str → Str → V) : V → List V → Hp → VK → Prop := fun x xs H Q => ∃ a b, x = .str a ∧ xs = [.str b] ∧ Q (g a b) H
theorem umt_count {X : Cx} : MtR X "str.count" (rStr2 fun a b => .int (Txt.count a b)) := mt_count
theorem umt_startswith {X : Cx} : MtR X "str.startswith" (rStr2 fun a b => .bl (Txt.startswith a b)) := mt_startswith
theorem rm_count {x y : Str} : RM K (rStr2 fun a b => .int (Txt.count a b)) (.str x) [.str y] (.int (Txt.count x y)) := fun B H v xs e rx rxs Q q => by
  cases rx
  cases rxs with
  | cons r1 r2 =>
    cases r2
    cases r1
    exact ⟨x, y, rfl, rfl, q _ B H (Pu.refl e) (.int _)⟩
theorem rm_startswith {x y : Str} : RM K (rStr2 fun a b => .bl (Txt.startswith a b)) (.str x) [.str y] (.bl (Txt.startswith x y)) := fun B H v xs e rx rxs Q q => by
  cases rx
  cases rxs with
  | cons r1 r2 =>
    cases r2
    cases r1
    exact ⟨x, y, rfl, rfl, q _ B H (Pu.refl e) (.bl _)⟩
def rRpart : V → List V → Hp → VK → Prop := fun x xs H Q => ∃ a b, x = .str a ∧ xs = [.str b] ∧ (b.length == 0) = false ∧ a.length ≤ sizeLine ∧
    ∀ p, H p = none → Q (.ref p) (upd H p (.tup [.str (Txt.rpartition a b).1, .str (Txt.rpartition a b).2.1, .str (Txt.rpartition a b).2.2]))
theorem umt_rpartition {X : Cx} : MtR X "str.rpartition" rRpart := by
  intro pins s σ H x xs v us Q I rx rs h
  obtain ⟨a, b, rfl, rfl, hb, hz, h⟩ := h
  obtain ⟨t, rfl⟩ := rx
  cases rs with
  | cons r1 rs =>
    cases rs
    obtain ⟨u, rfl⟩ := r1
    refine call_meets F.slot_str_rpartition (typeIs_str _ _ _) F.entry_str_rpartition (F.args_str_rpartition_2 _ _) (meets_str_rpartition a b t u hb hz) ?_
    unfold Txt.rpartition at h
    revert h
    cases Builtin.Str.lastOccurrence a b 0 a.length with
    | none => intro h; exact laid_parts I h
    | some i => intro h; exact laid_parts I h
theorem rm_rpartition {x y : Str} (hy : (y.length == 0) = false) (hx : x.length ≤ 10000000) : RM K rRpart (.str x) [.str y] (.tup [.str (Txt.rpartition x y).1, .str (Txt.rpartition x y).2.1, .str (Txt.rpartition x y).2.2]) := fun B H v xs e rx rxs Q q => by
  cases rx
  cases rxs with
  | cons r1 r2 =>
    cases r2
    cases r1
    exact ⟨x, y, rfl, rfl, hy, Nat.le_trans hx (by decide), fun p hp => q _ _ _ (Pu.new e hp) (.tup upd_same (.cons (.str _) (.cons (.str _) (.cons (.str _) .nil))))⟩
theorem ed_repl {x y z : Str} (ho : ED K to σ B (.str x)) (h : x.length + (x.length + 1) * z.length ≤ 16777216) : ED K (CwR.tReplC to y z) σ B (.str (Txt.replace x y z)) := fun B1 H1 e1 e2 Q q =>
  ho B1 H1 e1 e2 _ fun v B2 H2 p2 rx => by
    cases rx
    exact ⟨x, rfl, h, q _ B2 H2 p2 (.str _)⟩
/-! ### what is walked -/
def YD (K : PySem.W.Frag) (J : It) (B : Hp) (ds : List Dt) : Prop := ∀ i B1 H1, Same B B1 → Same B1 H1 → (ds.length ≤ i → J.stop i H1) ∧ ∀ d, ds[i]? = some d → J.go i H1 ∧ ∀ x H2, J.yld i H1 x H2 → ∃ B2, Pu B1 H1 B2 H2 ∧ Rp K B2 x d
def ES (K : PySem.W.Frag) (wi : TI) (σ : L2.St) (B : Hp) (ds : List Dt) : Prop := ∀ B1 H1, Same B B1 → Same B1 H1 → ∀ R : It → Hp → Prop, (∀ J B2 H2, Pu B1 H1 B2 H2 → YD K J B2 ds → R J H2) → wi σ H1 R
theorem yd_list {p : Addr} {xs : List V} (h : B p = some (.lst xs)) (r : RpL K B xs ds) : YD K (Itl K p) B ds := fun i B1 H1 e1 e2 => by
  have h1 : SqL K H1 p xs := .inl (.inl (e2 _ _ (e1 _ _ h)))
  refine ⟨fun hi => ⟨xs, h1, by rw [r.len]; exact hi⟩, fun d hd => ?_⟩
  obtain ⟨v, hv, rv⟩ := r.get hd
  refine ⟨⟨xs, v, h1, hv⟩, fun x H2 hy => ?_⟩
  obtain ⟨rfl, hx⟩ := hy
  have ex := hx xs h1
  rw [hv] at ex
  cases ex
  exact ⟨B1, Pu.refl e2, rv.mono e1⟩
theorem yd_tup {p : Addr} {xs : List V} (h : B p = some (.tup xs)) (r : RpL K B xs ds) : YD K (Itt K p) B ds := fun i B1 H1 e1 e2 => by
  have h1 : SqT K H1 p xs := .inl (.inl (e2 _ _ (e1 _ _ h)))
  refine ⟨fun hi => ⟨xs, h1, by rw [r.len]; exact hi⟩, fun d hd => ?_⟩
  obtain ⟨v, hv, rv⟩ := r.get hd
  refine ⟨⟨xs, v, h1, hv⟩, fun x H2 hy => ?_⟩
  obtain ⟨rfl, hx⟩ := hy
  have ex := hx xs h1
  rw [hv] at ex
  cases ex
  exact ⟨B1, Pu.refl e2, rv.mono e1⟩
theorem es_list (h : ED K ta σ B (.lst ds)) : ES K (iList K ta) σ B ds := fun B1 H1 e1 e2 R q => h B1 H1 e1 e2 _ fun v B2 H2 p2 rv => by
  cases rv with
  | lst h1 r1 => exact ⟨_, rfl, ⟨_, .inl (.inl (p2.x _ _ h1))⟩, q _ B2 H2 p2 (yd_list h1 r1)⟩
theorem es_tup (h : ED K ta σ B (.tup ds)) : ES K (iTup K ta) σ B ds := fun B1 H1 e1 e2 R q => h B1 H1 e1 e2 _ fun v B2 H2 p2 rv => by
  cases rv with
  | tup h1 r1 => exact ⟨_, rfl, ⟨_, .inl (.inl (p2.x _ _ h1))⟩, q _ B2 H2 p2 (yd_tup h1 r1)⟩
/-- a text's signs as data -/
def signsD (z : Str) : List Dt := z.cps.toList.map fun c => Dt.str ⟨#[c]⟩
theorem es_str {z : Str} (h : ED K ta σ B (.str z)) : ES K (iStr ta) σ B (signsD z) := fun B1 H1 e1 e2 R q => h B1 H1 e1 e2 _ fun v B2 H2 p2 rv => by
  cases rv
  refine ⟨z, rfl, q _ B2 H2 p2 fun i B3 H3 e3 e4 => ⟨fun hi => ?_, fun d hd => ?_⟩⟩
  · show z.cps.size ≤ i
    simpa [signsD] using hi
  · unfold signsD at hd
    rw [List.getElem?_map] at hd
    cases e : z.cps.toList[i]? with
    | none => rw [e] at hd; cases hd
    | some c =>
      rw [e] at hd
      cases hd
      have hc : z.cps[i]? = some c := by rw [← Array.getElem?_toList]; exact e
      refine ⟨(Array.getElem?_eq_some_iff.mp hc).1, fun x H2' hy => ?_⟩
      obtain ⟨rfl, c', hc', rfl⟩ := hy
      rw [hc] at hc'
      cases hc'
      exact ⟨B3, Pu.refl e4, .str _⟩
def rngD (lo : Int) (n : Nat) : List Dt := (List.range n).map fun (i : Nat) => Dt.int (lo + (i : Int))
theorem yd_rng (lo : Int) (n : Nat) : YD K (Itr lo n) B (rngD lo n) := fun i B3 H3 e3 e4 => ⟨fun hi => by
    show n ≤ i
    simpa [rngD] using hi, fun d hd => by
    unfold rngD at hd
    rw [List.getElem?_map] at hd
    cases e : (List.range n)[i]? with
    | none => rw [e] at hd; cases hd
    | some c =>
      rw [e] at hd
      cases hd
      have hi : i < n := by
        have := (List.getElem?_eq_some_iff.mp e).1
        simpa using this
      have hc : c = i := by
        have := (List.getElem?_eq_some_iff.mp e).2
        simpa using this.symm
      subst hc
      refine ⟨hi, fun x H2' hy => ?_⟩
      obtain ⟨rfl, rfl⟩ := hy
      exact ⟨B3, Pu.refl e4, .int _⟩⟩
theorem es_rng1 {ts : TA} {n : Int} (h : EA K ts σ B [.int n]) (h1 : -1000000000 ≤ n ∧ n ≤ 1000000000) : ES K (iRng1 ts) σ B (rngD 0 n.toNat) := fun B1 H1 e1 e2 R q => h B1 H1 e1 e2 _ fun v B2 H2 p2 rv => by
  cases rv with
  | cons r1 r2 =>
    cases r2
    cases r1
    exact ⟨n, rfl, by omega, by omega, q _ B2 H2 p2 (yd_rng 0 n.toNat)⟩
theorem es_rng2 {ts : TA} {m n : Int} (h : EA K ts σ B [.int m, .int n]) (h1 : -1000000000 ≤ n ∧ n ≤ 1000000000 ∧ -1000000000 ≤ m ∧ m ≤ 1000000000) : ES K (iRng2 ts) σ B (rngD m (n - m).toNat) := fun B1 H1 e1 e2 R q => h B1 H1 e1 e2 _ fun v B2 H2 p2 rv => by
  cases rv with
  | cons r1 r2 =>
    cases r2 with
    | cons r2 r3 =>
      cases r3
      cases r1
      cases r2
      exact ⟨m, n, rfl, by omega, q _ B2 H2 p2 (yd_rng m (n - m).toNat)⟩
end
end DL

set_option linter.all false
set_option maxRecDepth 100000
set_option maxHeartbeats 4000000
namespace DL
open PySem PySem.Spec PyProof.Rows L2
section
variable {K : PySem.W.Frag} {σ : L2.St} {B B' H : Hp} {ta tb te tx to : TE} {t u : TT} {a b c d : Dt} {ds es : List Dt} {tt : TT} {wi : TI}
/-! ### comprehensions -/
theorem filtmap_take {f : Dt → Bool} {g : Dt → Dt} {i : Nat} {d : Dt} (h : ds[i]? = some d) : ((ds.take (i + 1)).filter f).map g = ((ds.take i).filter f).map g ++ if f d = true then [g d] else [] := by
  have hi := (List.getElem?_eq_some_iff.mp h)
  obtain ⟨hl, he⟩ := hi
  rw [List.take_succ_eq_append_getElem hl, he, List.filter_append, List.map_append]
  congr 1
  by_cases hf : f d = true
  · rw [if_pos hf, List.filter_cons, if_pos hf]
    rfl
  · rw [if_neg hf, List.filter_cons, if_neg hf]
    rfl
/-- [e for x in xs if t], x in slot j -/
theorem el_lc {j : Nat} {vs : List Nat} (f : Dt → Bool) (g : Dt → Dt) (hs : ES K wi σ B ds) (hl : ds.length ≤ 1000000) (hw : ∀ x, wipe ((wipe σ vs).set j (some x)) vs = wipe σ vs)
    (ht : ∀ d, d ∈ ds → ∀ v B', Same B B' → Rp K B' v d → ET tt ((wipe σ vs).set j (some v)) B' (f d))
    (he : ∀ d, d ∈ ds → f d = true → ∀ v B', Same B B' → Rp K B' v d → ED K te ((wipe σ vs).set j (some v)) B' (g d)) :
    EL K (tLc wi (gName j) tt te vs) σ B ((ds.filter f).map g) := fun B1 H1 e1 e2 Q q => hs B1 H1 e1 e2 _ fun J B2 H2 p2 hy D hD => by
  refine ⟨fun i m H => m = ds.length - i ∧ i ≤ ds.length ∧ ∃ Bi acc, Pu B2 H2 Bi H ∧ Bi D = none ∧ H D = some (.lst acc) ∧ RpL K Bi acc (((ds.take i).filter f).map g),
    ⟨ds.length, rfl, Nat.zero_le _, B2, [], Pu.newH p2.x hD, p2.x.free hD, upd_same, ?_⟩, ?_⟩
  · rw [List.take_zero]
    exact .nil
  · rintro i m H ⟨rfl, hi, Bi, acc, pi, hb, hh, hr⟩
    have eB : Same B Bi := (e1.trans p2.b).trans pi.b
    have y := hy i Bi H pi.b pi.x
    by_cases hlt : i < ds.length
    · have hd : ds[i]? = some ds[i] := List.getElem?_eq_getElem hlt
      have hm : ds[i] ∈ ds := List.getElem_mem hlt
      obtain ⟨hgo, hyl⟩ := y.2 _ hd
      refine .inr ⟨hgo, fun H' => ∃ Bi' acc', Pu B2 H2 Bi' H' ∧ Bi' D = none ∧ H' D = some (.lst acc') ∧ RpL K Bi' acc' (((ds.take (i + 1)).filter f).map g), ?_, fun x H' hx => ?_⟩
      · rintro H' ⟨Bi', acc', z⟩
        exact ⟨ds.length - (i + 1), by omega, rfl, hlt, Bi', acc', z⟩
      · obtain ⟨B3, p3, rx⟩ := hyl x H' hx
        have e3 : Same B B3 := eB.trans p3.b
        have d3 := p3.hid D _ hb hh
        refine ⟨hw x, ht _ hm x B3 e3 rx B3 H' (Same.refl _) p3.x _ fun B4 H4 p4 => ?_⟩
        have d4 := p4.hid D _ d3.1 d3.2
        have key := filtmap_take (f := f) (g := g) hd
        by_cases hf : f ds[i] = true
        · rw [hf, if_pos rfl]
          refine he _ hm hf x B3 e3 rx B4 H4 p4.b p4.x _ fun v B5 H5 p5 rv => ?_
          have d5 := p5.hid D _ d4.1 d4.2
          have pp := (p3.trans p4).trans p5
          have hacc : acc.length ≤ 1000000 := by
            rw [hr.len, List.length_map]
            exact Nat.le_trans (List.length_filter_le _ _) (Nat.le_trans (by rw [List.length_take]; exact Nat.min_le_right _ _) hl)
          refine ⟨acc, d5.2, Nat.lt_of_le_of_lt hacc (by decide), B5, acc ++ [v], ?_, d5.1, upd_same, ?_⟩
          · have pw := pi.trans pp
            refine ⟨pw.b, same_hid pw.x d5.1, fun a o h1 h2 => ?_⟩
            have hne : a ≠ D := ne_of_none h2 hD
            rw [upd_ne hne]
            exact pw.hid a o h1 h2
          · rw [key, if_pos hf]
            exact (hr.mono pp.b).app (.cons rv .nil)
        · have hf' : f ds[i] = false := by simpa using hf
          rw [hf', if_neg Bool.false_ne_true]
          have pp := p3.trans p4
          refine ⟨B4, acc, pi.trans pp, d4.1, d4.2, ?_⟩
          rw [key, hf', if_neg Bool.false_ne_true, List.append_nil]
          exact hr.mono pp.b
    · have ei : i = ds.length := by omega
      subst ei
      refine .inl ⟨y.1 (Nat.le_refl _), ?_⟩
      rw [List.take_length] at hr
      have pp := p2.trans pi
      exact q D acc Bi H pp ((p2.hh e2).free hD) hb hh hr
theorem ed_lc {j : Nat} {vs : List Nat} (f : Dt → Bool) (g : Dt → Dt) (hs : ES K wi σ B ds) (hl : ds.length ≤ 1000000) (hw : ∀ x, wipe ((wipe σ vs).set j (some x)) vs = wipe σ vs)
    (ht : ∀ d, d ∈ ds → ∀ v B', Same B B' → Rp K B' v d → ET tt ((wipe σ vs).set j (some v)) B' (f d))
    (he : ∀ d, d ∈ ds → f d = true → ∀ v B', Same B B' → Rp K B' v d → ED K te ((wipe σ vs).set j (some v)) B' (g d)) :
    ED K (tLc wi (gName j) tt te vs) σ B (.lst ((ds.filter f).map g)) := (el_lc f g hs hl hw ht he).ed
theorem et_yes : ET tYes σ B true := fun B1 H1 e1 e2 Q q => q B1 H1 (Pu.refl e2)
theorem el_map {j : Nat} {vs : List Nat} (g : Dt → Dt) (hs : ES K wi σ B ds) (hl : ds.length ≤ 1000000) (hw : ∀ x, wipe ((wipe σ vs).set j (some x)) vs = wipe σ vs)
    (he : ∀ d, d ∈ ds → ∀ v B', Same B B' → Rp K B' v d → ED K te ((wipe σ vs).set j (some v)) B' (g d)) : EL K (tLc wi (gName j) tYes te vs) σ B (ds.map g) := by
  have h := el_lc (fun _ => true) g hs hl hw (fun _ _ _ _ _ _ => et_yes) (fun d hd _ => he d hd)
  rwa [List.filter_eq_self.mpr fun _ _ => rfl] at h
theorem ed_map {j : Nat} {vs : List Nat} (g : Dt → Dt) (hs : ES K wi σ B ds) (hl : ds.length ≤ 1000000) (hw : ∀ x, wipe ((wipe σ vs).set j (some x)) vs = wipe σ vs)
    (he : ∀ d, d ∈ ds → ∀ v B', Same B B' → Rp K B' v d → ED K te ((wipe σ vs).set j (some v)) B' (g d)) : ED K (tLc wi (gName j) tYes te vs) σ B (.lst (ds.map g)) := (el_map g hs hl hw he).ed
/-! ### statements -/
variable {D : Ends} {tu tw tz : TS}
theorem x_ret (h : ED K te σ B d) (e : Same B H) (k : KD K B H d D.rt) : tRet te D σ H := h B H (Same.refl B) e D.rt k
theorem x_asg {i : Nat} (h : ED K te σ B d) (e : Same B H) (k : ∀ v B2 H2, Pu B H B2 H2 → Rp K B2 v d → tz D (σ.set i (some v)) H2) : tSeq (tAsg te (gName i)) tz D σ H :=
  h B H (Same.refl B) e _ fun v B2 H2 p r => k v B2 H2 p r
theorem x_asgE {i : Nat} (h : ED K te σ B d) (e : Same B H) (k : ∀ v B2 H2, Pu B H B2 H2 → Rp K B2 v d → D.nx (σ.set i (some v)) H2) : tAsg te (gName i) D σ H :=
  h B H (Same.refl B) e _ fun v B2 H2 p r => k v B2 H2 p r
/-- a new list, known from then on, and new -/
theorem x_asgL {i : Nat} (h : EL K te σ B ds) (e : Same B H) (k : ∀ p xs B2 H2, Pu B H B2 H2 → H p = none → B2 p = some (.lst xs) → RpL K B2 xs ds → tz D (σ.set i (some (.ref p))) H2) : tSeq (tAsg te (gName i)) tz D σ H :=
  h B H (Same.refl B) e _ fun p xs B2 H2 pu hn hb hp hr => k p xs (upd B2 p (.lst xs)) H2 (pu.show hn hb hp) hn upd_same (hr.mono (same_upd hb))
/-- a new list that may change -/
theorem x_asgH {i : Nat} (h : EL K te σ B ds) (e : Same B H) (k : ∀ p xs B2 H2, Pu B H B2 H2 → H p = none → B2 p = none → H2 p = some (.lst xs) → RpL K B2 xs ds → tz D (σ.set i (some (.ref p))) H2) : tSeq (tAsg te (gName i)) tz D σ H :=
  h B H (Same.refl B) e _ fun p xs B2 H2 pu hn hb hp hr => k p xs B2 H2 pu hn hb hp hr
theorem x_if {k : Bool} (h : ET t σ B k) (e : Same B H) (h1 : k = true → ∀ B2 H2, Pu B H B2 H2 → tu { D with nx := tz D } σ H2) (h2 : k = false → ∀ B2 H2, Pu B H B2 H2 → tw { D with nx := tz D } σ H2) : tSeq (tIfS t tu tw) tz D σ H :=
  h B H (Same.refl B) e _ fun B2 H2 p => by
    cases k with
    | true => exact h1 rfl B2 H2 p
    | false => exact h2 rfl B2 H2 p
theorem x_ifE {k : Bool} (h : ET t σ B k) (e : Same B H) (h1 : k = true → ∀ B2 H2, Pu B H B2 H2 → tu D σ H2) (h2 : k = false → ∀ B2 H2, Pu B H B2 H2 → tw D σ H2) : tIfS t tu tw D σ H :=
  h B H (Same.refl B) e _ fun B2 H2 p => by
    cases k with
    | true => exact h1 rfl B2 H2 p
    | false => exact h2 rfl B2 H2 p
theorem x_when {k : Bool} (h : ET t σ B k) (e : Same B H) (h1 : k = true → ∀ B2 H2, Pu B H B2 H2 → tu { D with nx := tz D } σ H2) (h2 : k = false → ∀ B2 H2, Pu B H B2 H2 → tz D σ H2) : tSeq (tIfS t tu tNext) tz D σ H :=
  x_if (tw := tNext) h e h1 h2
theorem x_whenE {k : Bool} (h : ET t σ B k) (e : Same B H) (h1 : k = true → ∀ B2 H2, Pu B H B2 H2 → tu D σ H2) (h2 : k = false → ∀ B2 H2, Pu B H B2 H2 → D.nx σ H2) : tIfS t tu tNext D σ H :=
  x_ifE (tw := tNext) h e h1 h2
/-- an if without else whose two ways meet in one state -/
theorem x_whenJ {k : Bool} (σ' : L2.St) (rest : ∀ B3 H3, Pu B H B3 H3 → tz D σ' H3) (h : ET t σ B k) (e : Same B H) (h1 : (∀ B3 H3, Pu B H B3 H3 → tz D σ' H3) → k = true → ∀ B2 H2, Pu B H B2 H2 → tu { D with nx := tz D } σ H2)
    (h2 : (∀ B3 H3, Pu B H B3 H3 → tz D σ' H3) → k = false → ∀ B2 H2, Pu B H B2 H2 → tz D σ H2) : tSeq (tIfS t tu tNext) tz D σ H := x_when h e (h1 rest) (h2 rest)
theorem x_drop (h : ED K te σ B d) (e : Same B H) (k : ∀ B2 H2, Pu B H B2 H2 → tz D σ H2) : tSeq (tDrop te) tz D σ H :=
  h B H (Same.refl B) e _ fun v B2 H2 p r => k B2 H2 p
/-- xs.append(e), xs known so far: it isn't known any more -/
theorem x_appE {i : Nat} {p : Addr} {xs : List V} (hi : σ[i]? = some (some (.ref p))) (hp : B p = some (.lst xs)) (hl : xs.length ≤ 1000000) (h : ED K te σ B d) (e : Same B H) (k : ∀ v B2 H2, Pu B H B2 H2 → D.nx σ (upd H2 p (.lst (xs ++ [v])))) :
    tDrop (tBM K "list" rAppend (tVar i) (tCons te tNil)) D σ H :=
  ⟨.ref p, hi, .inl ⟨rfl, _, .inl (.inl (e _ _ hp))⟩, h B H (Same.refl B) e _ fun v B2 H2 p2 rv => ⟨p, xs, v, rfl, rfl, p2.x _ _ (p2.b _ _ hp), Nat.lt_of_le_of_lt hl (by decide), k v B2 H2 p2⟩⟩
theorem Pu.forget {p : Addr} {o : HO} {B2 H2 : Hp} (a : Pu B H B2 H2) (e : Same B H) (hp : H p = none) : Pu B H B (upd H2 p o) :=
  ⟨Same.refl B, same_hid (a.b.trans a.x) (e.free hp), fun q u h1 h2 => ⟨h1, by rw [upd_ne (ne_of_none h2 hp)]; exact (a.hid q u h1 h2).2⟩⟩
/-- for x in .. -/
theorem x_forE {j : Nat} (hs : ES K wi σ B ds) (e : Same B H) (k : ∀ B2 H2, Pu B H B2 H2 → ∃ Pv : Nat → L2.St → Hp → Hp → Prop, Pv 0 σ B2 H2 ∧ (∀ i σ' B' H', Pv i σ' B' H' → Same B2 B' ∧ Same B' H') ∧
    (∀ i d σ' B' H', ds[i]? = some d → Pv i σ' B' H' → ∀ v B3 H3, Pu B' H' B3 H3 → Rp K B3 v d →
      tu { D with nx := fun s h => ∃ b, Pv (i + 1) s b h, ct := fun s h => ∃ b, Pv (i + 1) s b h, bk := D.nx } (σ'.set j (some v)) H3) ∧
    (∀ σ' B' H', Pv ds.length σ' B' H' → D.nx σ' H')) : tFor wi (gName j) tu D σ H := hs B H (Same.refl B) e _ fun J B2 H2 p2 hy => by
  obtain ⟨Pv, h0, hw, hst, hd⟩ := k B2 H2 p2
  refine ⟨fun i m s h => m = ds.length - i ∧ i ≤ ds.length ∧ ∃ b, Pv i s b h, ⟨ds.length, rfl, Nat.zero_le _, B2, h0⟩, ?_⟩
  rintro i m s h ⟨rfl, hi, b, pv⟩
  obtain ⟨e1, e2⟩ := hw _ _ _ _ pv
  have y := hy i b h e1 e2
  by_cases hlt : i < ds.length
  · have hdd : ds[i]? = some ds[i] := List.getElem?_eq_getElem hlt
    obtain ⟨hgo, hyl⟩ := y.2 _ hdd
    refine .inr ⟨hgo, fun s h => ∃ b, Pv (i + 1) s b h, fun s' h' ⟨b', z⟩ => ⟨ds.length - (i + 1), by omega, rfl, hlt, b', z⟩, fun x H' hx => ?_⟩
    obtain ⟨B3, p3, rx⟩ := hyl x H' hx
    exact hst i _ s b h hdd pv x B3 H' p3 rx
  · have ei : i = ds.length := by omega
    subst ei
    exact .inl ⟨y.1 (Nat.le_refl _), hd s b h pv⟩
theorem x_for {j : Nat} (hs : ES K wi σ B ds) (e : Same B H) (k : ∀ B2 H2, Pu B H B2 H2 → ∃ Pv : Nat → L2.St → Hp → Hp → Prop, Pv 0 σ B2 H2 ∧ (∀ i σ' B' H', Pv i σ' B' H' → Same B2 B' ∧ Same B' H') ∧
    (∀ i d σ' B' H', ds[i]? = some d → Pv i σ' B' H' → ∀ v B3 H3, Pu B' H' B3 H3 → Rp K B3 v d →
      tu { D with nx := fun s h => ∃ b, Pv (i + 1) s b h, ct := fun s h => ∃ b, Pv (i + 1) s b h, bk := tz D } (σ'.set j (some v)) H3) ∧
    (∀ σ' B' H', Pv ds.length σ' B' H' → tz D σ' H')) : tSeq (tFor wi (gName j) tu) tz D σ H := x_forE (D := { D with nx := tz D }) hs e k
end
/-! ### promises by data -/
/-- a function of data -/
def PF (K : PySem.W.Frag) (dom : List Dt → Prop) (g : List Dt → Dt) : Sp := fun vs H Q _ => ∃ B ds, Same B H ∧ RpL K B vs ds ∧ dom ds ∧ KD K B H (g ds) Q
/-- .. that gives a new list -/
def PL (K : PySem.W.Frag) (dom : List Dt → Prop) (g : List Dt → List Dt) : Sp := fun vs H Q _ => ∃ B ds, Same B H ∧ RpL K B vs ds ∧ dom ds ∧
  ∀ p xs B2 H2, Pu B H B2 H2 → H p = none → B2 p = none → H2 p = some (.lst xs) → RpL K B2 xs (g ds) → Q (.ref p) H2
section
variable {K : PySem.W.Frag} {σ : L2.St} {B B' H : Hp} {d : Dt} {ds es : List Dt} {ts tk : TA} {dom : List Dt → Prop} {E : XK}
theorem ed_call {g : List Dt → Dt} {dvs : List V} (h : EA K ts σ B ds) (hd : ∀ B, RpL K B dvs es) (hm : dom (ds ++ es)) : ED K (tCall (PF K dom g) dvs E ts) σ B (g (ds ++ es)) := fun B1 H1 e1 e2 Q q =>
  h B1 H1 e1 e2 _ fun vs B2 H2 p2 r => ⟨B2, ds ++ es, p2.x, r.app (hd B2), hm, fun v B3 H3 p3 rv => q v B3 H3 (p2.trans p3) rv⟩
theorem ed_call1 {g : List Dt → Dt} (h : EA K ts σ B ds) (hm : dom ds) : ED K (tCall (PF K dom g) [] E ts) σ B (g ds) := fun B1 H1 e1 e2 Q q =>
  h B1 H1 e1 e2 _ fun vs B2 H2 p2 r => ⟨B2, ds, p2.x, by rw [List.append_nil]; exact r, hm, fun v B3 H3 p3 rv => q v B3 H3 (p2.trans p3) rv⟩
theorem el_call1 {g : List Dt → List Dt} (h : EA K ts σ B ds) (hm : dom ds) : EL K (tCall (PL K dom g) [] E ts) σ B (g ds) := fun B1 H1 e1 e2 Q q =>
  h B1 H1 e1 e2 _ fun vs B2 H2 p2 r => ⟨B2, ds, p2.x, by rw [List.append_nil]; exact r, hm, fun p xs B3 H3 p3 hn hb hh hr => q p xs B3 H3 (p2.trans p3) ((p2.hh e2).free hn) hb hh hr⟩
/-- with keywords: gV puts the values in order, gD the data -/
theorem ed_callN {n m : Nat} {g : List Dt → Dt} {gV : List V → List V → List V} {gD : List Dt → List Dt → List Dt} (h : EA K ts σ B ds) (hk : EA K tk σ B es) (hn : ds.length = n) (hm : es.length = m)
    (hg : ∀ (B : Hp) vs zs, RpL K B vs ds → RpL K B zs es → RpL K B (gV vs zs) (gD ds es)) (hd : dom (gD ds es)) : ED K (tCallN n m (PF K dom g) gV E ts tk) σ B (g (gD ds es)) := fun B1 H1 e1 e2 Q q =>
  h B1 H1 e1 e2 _ fun vs B2 H2 p2 r => hk B2 H2 (e1.trans p2.b) p2.x _ fun zs B3 H3 p3 r3 => ⟨by rw [r.len]; exact hn, by rw [r3.len]; exact hm, B3, gD ds es, p3.x, hg B3 _ _ (r.mono p3.b) r3, hd, fun v B4 H4 p4 rv => q v B4 H4 ((p2.trans p3).trans p4) rv⟩
theorem el_callN {n m : Nat} {g : List Dt → List Dt} {gV : List V → List V → List V} {gD : List Dt → List Dt → List Dt} (h : EA K ts σ B ds) (hk : EA K tk σ B es) (hn : ds.length = n) (hm : es.length = m)
    (hg : ∀ (B : Hp) vs zs, RpL K B vs ds → RpL K B zs es → RpL K B (gV vs zs) (gD ds es)) (hd : dom (gD ds es)) : EL K (tCallN n m (PL K dom g) gV E ts tk) σ B (g (gD ds es)) := fun B1 H1 e1 e2 Q q =>
  h B1 H1 e1 e2 _ fun vs B2 H2 p2 r => hk B2 H2 (e1.trans p2.b) p2.x _ fun zs B3 H3 p3 r3 => ⟨by rw [r.len]; exact hn, by rw [r3.len]; exact hm, B3, gD ds es, p3.x, hg B3 _ _ (r.mono p3.b) r3, hd, fun p xs B4 H4 p4 hn hb hh hr => by
    have pp := p2.trans p3
    exact q p xs B4 H4 (pp.trans p4) ((pp.hh e2).free hn) hb hh hr⟩
end
/-! ### a def of the text, its promise kept -/
structure DefK (P : Program) (w : World) (K : PySem.W.Frag) (mg : Str → Option Value) (base : Heap) (CX : CXT) (x : Str) (st : Stmt) (k : Nat) (ps : List Str) (sp : Sp) : Prop where
  ex : ∃ f fd, Fun K x x st f fd ∧ FnOk P w K mg base CX k f fd ps sp ∧ mg x = some (.ref f)
  bd : ∀ f fd, Fun K x x st f fd → Binds K fd ps []
section
variable {X : Cx} {st : Stmt} {k n : Nat} {ps ks : List Str} {sp : Sp} {E : XK} {x : Str} {p pos : Pos} {e : Expr} {es : List Expr} {t tk : TA} {kws : List Keyword}
theorem pe_def (D : DefK X.prog X.w X.K X.mg X.base CX0 x st k ps sp) (hr : Room k X.A) (hg : Gl X x) (ha : PA X (e :: es) t) (hdb : (x == ("__debug__" : Str)) = false := by decide)
    (he : starEach (e :: es) X.env = (false, eval e X.env) :: starEach es X.env := by rfl) (hpl : (backTo pos (starEach es X.env)).any (·.1) = false := by rfl) :
    PE X (.Call (.Name x p) (e :: es) [] pos) (tCall sp [] E0 t) := by
  obtain ⟨f, fd, F, G, gm⟩ := D.ex
  exact pe_call G hr hg gm F.kp (D.bd f fd F) .nil pass0 ha hdb he hpl
theorem pe_def0 (D : DefK X.prog X.w X.K X.mg X.base CX0 x st k ps sp) (hr : Room k X.A) (hg : Gl X x) (hdb : (x == ("__debug__" : Str)) = false := by decide) :
    PE X (.Call (.Name x p) [] [] pos) (tCall sp [] E0 tNil) := by
  obtain ⟨f, fd, F, G, gm⟩ := D.ex
  exact pe_call0 G hr hg gm F.kp (D.bd f fd F) .nil pass0 hdb
/-- f(k = v, ..), no positional arguments -/
theorem pe_callN0 {CX : CXT} {f : Addr} {fd : FuncData} {g : List Value → List Value → List Value} {gV : List V → List V → List V} (F : FnOk X.prog X.w X.K X.mg X.base CX k f fd ps sp) (hr : Room k X.A) (hg : Gl X x) (hm : X.mg x = some (.ref f)) (hk : PySem.W.keepIn X.K (.ref f) = true) (hb : KBn X.K fd ps 0 ks g gV) (hx : Passes CX X E)
    (hkw : PK X kws tk) (hall : (backToKw pos (keywordEach kws X.env)).all (·.1.isSome) = true := by rfl) (hks : (backToKw pos (keywordEach kws X.env)).filterMap (·.1) = ks := by rfl)
    (hdb : (x == ("__debug__" : Str)) = false := by decide)
    (hpl : ((backTo pos (starEach [] X.env)).any (·.1) || (backToKw pos (keywordEach kws X.env)).any (·.1.isNone)) = false := by rfl) :
    PE X (.Call (.Name x p) [] kws pos) (tCallN 0 ks.length sp gV E tNil tk) := by
  refine ⟨fun pins s σ H Q I h => ?_⟩
  refine wpAny_Call_Name_kw (ld_glob I hg hm ?_ hdb)
  refine PySem.W.callWith_KW0 (h₀ := X.base) I.ok.mod.kin hk hall (thn (hkw.run pos pins s σ H _ I h) fun ws s2 ⟨zs, H2, I2, rz, l1, l2, q2⟩ => ⟨I2.kIn, ?_⟩) hpl
  rw [hks]
  exact run_fnN (us := []) (vs := []) F hr hb hx I2 .nil rz l1 l2 q2
/-- a def without defaults, called by keywords alone or behind n positional values; g puts them in the parameters' order -/
theorem kb_of {K : PySem.W.Frag} {x : Str} {st : Stmt} {f : Addr} {fd : FuncData} (F : Fun K x x st f fd) (g : {α : Type} → List α → List α → List α) (hrel : ∀ {vs zs : List V} {us ws : List Value}, Vals vs us → Vals zs ws → Vals (g vs zs) (g us ws))
    (h : ∀ (kV doc pm : Value) (an : Option Addr) (cdv ct : Value) (us ws : List Value), us.length = n → ws.length = ks.length → bindArgs (PySem.W.fnOf x x (defArgs st) (defBody st) (defScope st) .none kV doc pm an cdv ct) ⟨us, ks.zip ws⟩ = pure (ps.zip (g us ws))) :
    KBn K fd ps n ks (fun us ws => g us ws) (fun vs zs => g vs zs) := by
  obtain ⟨oc, od, kV, doc, pm, an, cdv, ct, osl, rfl, lk, hcd⟩ := F.ex
  exact ⟨fun s us ws X l1 l2 => .of_eq (h kV doc pm an cdv ct us ws l1 l2), hrel⟩
theorem pe_defN0 (D : DefK X.prog X.w X.K X.mg X.base CX0 x st k ps sp) (g : {α : Type} → List α → List α → List α) (hrel : ∀ {vs zs : List V} {us ws : List Value}, Vals vs us → Vals zs ws → Vals (g vs zs) (g us ws))
    (hr : Room k X.A) (hg : Gl X x) (hkw : PK X kws tk)
    (h : ∀ (kV doc pm : Value) (an : Option Addr) (cdv ct : Value) (us ws : List Value), us.length = 0 → ws.length = ks.length → bindArgs (PySem.W.fnOf x x (defArgs st) (defBody st) (defScope st) .none kV doc pm an cdv ct) ⟨us, ks.zip ws⟩ = pure (ps.zip (g us ws)))
    (hall : (backToKw pos (keywordEach kws X.env)).all (·.1.isSome) = true := by rfl) (hks : (backToKw pos (keywordEach kws X.env)).filterMap (·.1) = ks := by rfl)
    (hdb : (x == ("__debug__" : Str)) = false := by decide)
    (hpl : ((backTo pos (starEach [] X.env)).any (·.1) || (backToKw pos (keywordEach kws X.env)).any (·.1.isNone)) = false := by rfl) :
    PE X (.Call (.Name x p) [] kws pos) (tCallN 0 ks.length sp (fun vs zs => g vs zs) E0 tNil tk) := by
  obtain ⟨f, fd, F, G, gm⟩ := D.ex
  exact pe_callN0 G hr hg gm F.kp (kb_of F g hrel h) pass0 hkw hall hks hdb hpl
end
section
variable {P : Program} {w : World} {K : PySem.W.Frag} {mg : Str → Option Value} {base : Heap}
/-- a def that keeps the promise of a function of data -/
theorem ok_pf {x : Str} {st : Stmt} {f : Addr} {fd : FuncData} {N ps : List Str} {k : Nat} {dom : List Dt → Prop} {g : List Dt → Dt} (F : Fun K x x st f fd) (S : FnScope N ps (defScope st)) (len : ∀ ds, dom ds → ds.length = ps.length)
    (hbody : ∀ (cdv : Value) (A : Around) (outer : List Env) (s : Shared) (H : Hp) (E : XK), Room k (A.deeper (envOfC x (defScope st) s.heap.objs.size f cdv)) →
      ∃ t, PSs (cxOf CX0 P w K mg base N x (defScope st) f cdv A outer s H E).nox (defBody st) t ∧ ∀ (B : Hp) (vs : List V) (ds : List Dt) (Q : VK), Same B H → RpL K B vs ds → dom ds → KD K B H (g ds) Q → t { nx := fun _ H' => Q .non H', rt := Q } (start N vs) H) :
    FnOk P w K mg base CX0 (k + 1) f fd ps (PF K dom g) :=
  F.ok S (fun vs H Q E ⟨B, ds, _, r, hd, _⟩ => r.len.trans (len ds hd)) fun cdv A outer s H vs Q E hr ⟨B, ds, e, r, hd, q⟩ => by
    obtain ⟨t, h, hq⟩ := hbody cdv A outer s H E hr
    exact ⟨t, h, hq B vs ds Q e r hd q⟩
theorem ok_pl {x : Str} {st : Stmt} {f : Addr} {fd : FuncData} {N ps : List Str} {k : Nat} {dom : List Dt → Prop} {g : List Dt → List Dt} (F : Fun K x x st f fd) (S : FnScope N ps (defScope st)) (len : ∀ ds, dom ds → ds.length = ps.length)
    (hbody : ∀ (cdv : Value) (A : Around) (outer : List Env) (s : Shared) (H : Hp) (E : XK), Room k (A.deeper (envOfC x (defScope st) s.heap.objs.size f cdv)) →
      ∃ t, PSs (cxOf CX0 P w K mg base N x (defScope st) f cdv A outer s H E).nox (defBody st) t ∧ ∀ (B : Hp) (vs : List V) (ds : List Dt) (Q : VK), Same B H → RpL K B vs ds → dom ds →
        (∀ p xs B2 H2, Pu B H B2 H2 → H p = none → B2 p = none → H2 p = some (.lst xs) → RpL K B2 xs (g ds) → Q (.ref p) H2) → t { nx := fun _ H' => Q .non H', rt := Q } (start N vs) H) :
    FnOk P w K mg base CX0 (k + 1) f fd ps (PL K dom g) :=
  F.ok S (fun vs H Q E ⟨B, ds, _, r, hd, _⟩ => r.len.trans (len ds hd)) fun cdv A outer s H vs Q E hr ⟨B, ds, e, r, hd, q⟩ => by
    obtain ⟨t, h, hq⟩ := hbody cdv A outer s H E hr
    exact ⟨t, h, hq B vs ds Q e r hd q⟩
theorem x_retL {K : PySem.W.Frag} {te : TE} {σ : L2.St} {B H : Hp} {ds : List Dt} {D : Ends} (h : EL K te σ B ds) (e : Same B H) (k : ∀ p xs B2 H2, Pu B H B2 H2 → H p = none → B2 p = none → H2 p = some (.lst xs) → RpL K B2 xs ds → D.rt (.ref p) H2) : tRet te D σ H :=
  h B H (Same.refl B) e _ k
end
end DL

set_option linter.all false
set_option maxRecDepth 100000
set_option maxHeartbeats 4000000
namespace DL
open PySem PySem.Spec PyProof.Rows L2
/-- a module's constant -/
def GC (mg : Str → Option Value) (x : Str) (v : V) : Prop := ∃ u, mg x = some u ∧ RelV v u
theorem pe_gc {X : Cx} {x : Str} {v : V} {pos : Pos} (h : GC X.mg x v) (hg : Gl X x) (hd : (x == ("__debug__" : Str)) = false := by decide) : PE X (.Name x pos) (tC v) := by
  obtain ⟨u, hm, r⟩ := h
  exact pe_glob hg hm r hd
section
variable {K : PySem.W.Frag} {B : Hp}
theorem RpL.one {vs : List V} {d : Dt} (r : RpL K B vs [d]) : ∃ v, vs = [v] ∧ Rp K B v d := by
  cases r with
  | cons a r =>
    cases r
    exact ⟨_, rfl, a⟩
theorem RpL.two {vs : List V} {d e : Dt} (r : RpL K B vs [d, e]) : ∃ v w, vs = [v, w] ∧ Rp K B v d ∧ Rp K B w e := by
  cases r with
  | cons a r =>
    obtain ⟨w, rfl, b⟩ := r.one
    exact ⟨_, _, rfl, a, b⟩
theorem RpL.three {vs : List V} {d e f : Dt} (r : RpL K B vs [d, e, f]) : ∃ v w u, vs = [v, w, u] ∧ Rp K B v d ∧ Rp K B w e ∧ Rp K B u f := by
  cases r with
  | cons a r =>
    obtain ⟨w, u, rfl, b, c⟩ := r.two
    exact ⟨_, _, _, rfl, a, b, c⟩
end
theorem all_map_bl {α : Type} (l : List α) (f : α → Bool) : (l.map f).all id = l.all f := by
  rw [List.all_map]
  rfl
/-- a text of a length that is told -/
def strB : Dt → Prop
  | .str z => z.length ≤ 100000
  | _ => True
def hd0 (ds : List Dt) : Dt := ds.headD .non
def dom1 (ds : List Dt) : Prop := ∃ d, ds = [d] ∧ isObj d = false ∧ strB d
theorem dom1_len (ds : List Dt) (h : dom1 ds) : ds.length = 1 := by
  obtain ⟨d, rfl, _⟩ := h
  rfl
/-- one text is handed in -/
def domS (ds : List Dt) : Prop := ∃ z, ds = [.str z] ∧ z.length ≤ 100000
theorem domS_len (ds : List Dt) (h : domS ds) : ds.length = 1 := by
  obtain ⟨d, rfl, _⟩ := h
  rfl
def txt (d : Dt) : Str := match d with | .str z => z | _ => Str.empty
theorem el_is {K : PySem.W.Frag} {te : TE} {σ : L2.St} {B : Hp} {ds es : List Dt} (h : EL K te σ B ds) (e : ds = es) : EL K te σ B es := e ▸ h
/-- a check that a datum is no object, its texts short -/
def domB : Dt → Bool
  | .str z => decide (z.length ≤ 100000)
  | .loc _ => false
  | .ty _ => false
  | _ => true
theorem domB_ok {d : Dt} (h : domB d = true) : isObj d = false ∧ strB d := by
  cases d with
  | str z => exact ⟨rfl, of_decide_eq_true (p := z.length ≤ 100000) h⟩
  | loc a => cases h
  | ty a => cases h
  | _ => exact ⟨rfl, trivial⟩
theorem dom1_of {d : Dt} (h : domB d = true) : dom1 [d] := ⟨d, rfl, (domB_ok h).1, (domB_ok h).2⟩
theorem all_get {α : Type} {p : α → Bool} {l : List α} (h : l.all p = true) {i : Nat} {x : α} (hx : l[i]? = some x) : p x = true := List.all_eq_true.mp h x (List.mem_of_getElem? hx)
theorem signs_len (z : Str) : (signsD z).length = z.length := by
  unfold signsD
  rw [List.length_map]
  rfl
theorem strs_len (ys : List Str) : (strsD ys).length = ys.length := List.length_map ..
end DL

set_option linter.all false
set_option maxRecDepth 100000
set_option maxHeartbeats 4000000
/-! DLk: the rules whose readings name the written part K, with K told (for use in comprehensions' blocks). -/
namespace DL
open PySem PySem.Spec PyProof.Rows L2
section
variable {X : Cx} {K : PySem.W.Frag}
theorem k_isi (hK : X.K = K) : CallR X (.builtin "isinstance") (rIsi K) := hK ▸ call_isi
theorem k_isiT (hK : X.K = K) : CallR X (.builtin "isinstance") (rIsiT K) := hK ▸ call_isiT
theorem k_len (hK : X.K = K) : CallR X (.builtin "len") (rLen K) := hK ▸ ucall_len
theorem k_all (hK : X.K = K) (hc : X.calm = true) : CallR X (.builtin "all") (rAll K) := hK ▸ cr_all hc
theorem k_any (hK : X.K = K) (hc : X.calm = true) : CallR X (.builtin "any") (rAny K) := hK ▸ cr_any hc
theorem k_ix (hK : X.K = K) : IxR X (rIx K) := hK ▸ ix_seq
theorem k_sl (hK : X.K = K) : SlR X (uSl K) := hK ▸ usl
theorem k_eq (hK : X.K = K) (hu : X.A.units + 64 < cLine) : OpR X (compareOp .Eq) (uEq K) := hK ▸ uop_eq hu
theorem k_ne (hK : X.K = K) (hu : X.A.units + 64 < cLine) : OpR X (compareOp .NotEq) (uNe K) := hK ▸ uop_ne hu
theorem k_in (hK : X.K = K) : OpR X (compareOp .In) (rIn K false) := hK ▸ op_in_seq
theorem k_notIn (hK : X.K = K) : OpR X (compareOp .NotIn) (rIn K true) := hK ▸ op_notIn_seq
theorem k_join (hK : X.K = K) : MtR X "str.join" (rJoin K) := hK ▸ umt_join
theorem k_sortedS (hK : X.K = K) : CallR X (.builtin "sorted") (rSortedS K) := hK ▸ cr_sortedS
theorem k_sorted (hK : X.K = K) : CallR X (.builtin "sorted") (rSorted K) := hK ▸ cr_sorted
theorem k_pi_list (hK : X.K = K) {tg l : Expr} {tl : TE} (hl : PE X l tl) : PI X tg l (iList K tl) := hK ▸ pi_list hl
theorem k_pi_tup (hK : X.K = K) {tg l : Expr} {tl : TE} (hl : PE X l tl) : PI X tg l (iTup K tl) := hK ▸ pi_tup hl
theorem k_pg_tup (hK : X.K = K) {es : List Expr} {k : Nat} {t : TGs} {n : Nat} {pos : Pos} (hc : X.calm = true) (h : PGs X es t)
    (hn : (assignEach es X.env).length = n := by rfl) (hst : (assignEach es X.env).findIdx? (·.1) = none := by rfl) : PG X (.Tuple es k pos) (gTup K n t) := hK ▸ pg_tup hc h hn hst
theorem k_pg_unl (hK : X.K = K) {es : List Expr} {k : Nat} {t : TGs} {n : Nat} {pos : Pos} (hc : X.calm = true) (h : PGs X es t)
    (hn : (assignEach es X.env).length = n := by rfl) (hst : (assignEach es X.env).findIdx? (·.1) = none := by rfl) : PG X (.Tuple es k pos) (gUnl K n t) := hK ▸ pg_unl hc h hn hst
theorem k_fld (hK : X.K = K) {e : Expr} {f : Str} {pos : Pos} {ta : TE} (he : PE X e ta) (hb : attributeBase e f X.env (eval e X.env) = eval e X.env) : PE X (.Attribute e f pos) (tFld K ta f) := hK ▸ pe_fld he hb
theorem k_sfld (hK : X.K = K) {o value : Expr} {f : Str} {pos pos' : Pos} {ta tv : TE} (ha : PE X o ta) (hv : PE X value tv) (hs : swapsWith value (some (.Attribute o f pos')) pos.line X.env = pure false) : PS X (.Assign [.Attribute o f pos'] value pos) (sFld K ta tv f) := hK ▸ ps_fld ha hv hs
variable {o e : Expr} {es : List Expr} {to : TE} {t : TA} {name : Str} {apos cpos : Pos} {T id : String} {r : V → List V → Hp → VK → Prop}
theorem k_bm0 (hK : X.K = K) (pa : PlainAttrs T) (slot : Slot T name id) (hty : typeOf (.builtin id) = pure (.type "method_descriptor")) (hm : MtR X id r) (ho : PE X o to)
    (hbase : attributeBase o name X.env (eval o X.env) = eval o X.env := by rfl) (hline : (apos.endLine == cpos.line) = true := by rfl) : PE X (.Call (.Attribute o name apos) [] [] cpos) (tBM0 K T r to) := hK ▸ pe_bm0 pa slot hty hm ho hbase hline
theorem k_bm (hK : X.K = K) (pa : PlainAttrs T) (slot : Slot T name id) (hty : typeOf (.builtin id) = pure (.type "method_descriptor")) (hm : MtR X id r) (ho : PE X o to) (ha : PA X (e :: es) t)
    (hbase : attributeBase o name X.env (eval o X.env) = eval o X.env := by rfl)
    (hfew : ((backTo cpos (starEach (e :: es) X.env)).all (fun x => !x.1) && (backToKw cpos (keywordEach [] X.env)).all (fun x => x.1.isSome)
      && decide ((e :: es).length + ([] : List Keyword).length + (if ([] : List Keyword).isEmpty then 0 else 1) < 30)) = true := by rfl)
    (hline : (apos.endLine == cpos.line) = true := by rfl) (hs : starEach (e :: es) X.env = (false, eval e X.env) :: starEach es X.env := by rfl) (hplain : (backTo cpos (starEach es X.env)).any (·.1) = false := by rfl) :
    PE X (.Call (.Attribute o name apos) (e :: es) [] cpos) (tBM K T r to t) := hK ▸ pe_bm pa slot hty hm ho ha hbase hfew hline hs hplain
end
end DL

set_option linter.all false
set_option maxRecDepth 100000
set_option maxHeartbeats 4000000
/-! TX: texts as lists of signs: split, join, count, rpartition by one sign. -/
namespace TX
open PySem PySem.Spec PyProof.Rows L2 DL TL
/-- a list of signs as a text -/
def mk (l : List Nat) : Str := ⟨l.toArray⟩
theorem tl_mk' (l : List Nat) : tl (mk l) = l := rfl
theorem mk_tl' (x : Str) : mk (tl x) = x := mk_tl x
theorem mk_inj {a b : List Nat} (h : mk a = mk b) : a = b := congrArg tl h
theorem len_mk (l : List Nat) : (mk l).length = l.length := by rw [len_tl, tl_mk']
/-- parts between the signs c -/
def splitN (c : Nat) : List Nat → List (List Nat)
  | [] => [[]]
  | x :: r => if x = c then [] :: splitN c r else match splitN c r with
    | [] => [[x]]
    | p :: ps => (x :: p) :: ps
theorem splitN_ne (c : Nat) : ∀ l, splitN c l ≠ []
  | [] => by simp [splitN]
  | x :: r => by
    rw [splitN]
    split
    · simp
    · split <;> simp
theorem spl_one (c : Nat) : ∀ (l acc : List Nat), spl [c] 0 acc l = match splitN c l with
    | [] => []
    | p :: ps => (acc ++ p) :: ps
  | [], acc => by simp [spl_nil, splitN]
  | x :: r, acc => by
    by_cases h : x = c
    · subst h
      have hp : pre [x] (x :: r) = true := by simp [pre]
      rw [spl_hit hp, splitN, if_pos rfl]
      show acc :: spl [x] 0 [] r = (acc ++ []) :: splitN x r
      rw [spl_one x r [], List.append_nil]
      cases e : splitN x r with
      | nil => exact absurd e (splitN_ne _ _)
      | cons p ps => rfl
    · have hp : pre [c] (x :: r) = false := pre_of_head [] r h
      rw [spl_miss hp, spl_one c r, splitN, if_neg h]
      cases e : splitN c r with
      | nil => exact absurd e (splitN_ne _ _)
      | cons p ps => simp
theorem split_one {y : Str} {c : Nat} (hy : tl y = [c]) (hc : c < 256) (x : Str) : Txt.split x y = (splitN c (tl x)).map mk := by
  apply map_tl_inj
  have hk : y.cps.all (· < 256) = true := by
    rw [← Array.all_toList]
    show (tl y).all _ = true
    rw [hy]
    simp [hc]
  rw [split_spl x y (by rw [hy]; simp) (kind_ok hk), hy, spl_one, List.map_map]
  have : (tl ∘ mk) = id := rfl
  rw [this, List.map_id]
  cases e : splitN c (tl x) with
  | nil => exact absurd e (splitN_ne _ _)
  | cons p ps => simp
theorem split_count {y : Str} {c : Nat} (hy : tl y = [c]) (hc : c < 256) (x : Str) : ((Txt.split x y).length : Int) = Txt.count x y + 1 := by
  have hk : y.cps.all (· < 256) = true := by
    rw [← Array.all_toList]
    show (tl y).all _ = true
    rw [hy]
    simp [hc]
  have hl : y.length = 1 := by rw [len_tl, hy]; rfl
  unfold Txt.split Txt.count
  by_cases h1 : (decide (x.length < y.length) || decide (Builtin.Str.strKind x < Builtin.Str.strKind y)) = true
  · rw [if_pos h1]
    have hlt : x.length < y.length := by
      simp only [Bool.or_eq_true, decide_eq_true_eq] at h1
      rcases h1 with h | h
      · exact h
      · exact absurd h (kind_ok hk)
    obtain ⟨f, g, hn⟩ := PySem.StrLaws.occ_tight x y (len1 (by rw [hy]; simp))
    cases ho : Builtin.Str.occurrences x y 0 x.length (x.length + 1) with
    | nil => rfl
    | cons k r =>
      rw [ho] at g
      have hc : k + y.length ≤ x.length := g.2.1.1
      omega
  · rw [if_neg h1]
    by_cases h2 : (Builtin.Str.occurrences x y 0 x.length (x.length + 1)).isEmpty = true
    · rw [if_pos h2, List.isEmpty_iff.mp h2]
      rfl
    · rw [if_neg h2, PyProof.Rows.len_partsBetween]
      simp
theorem splitN_len (c : Nat) : ∀ (l : List Nat) (p : List Nat), p ∈ splitN c l → p.length ≤ l.length
  | [], p, h => by
    simp [splitN] at h
    simp [h]
  | x :: r, p, h => by
    rw [splitN] at h
    split at h
    · rcases List.mem_cons.mp h with rfl | h
      · simp
      · exact Nat.le_succ_of_le (splitN_len c r p h)
    · have ih := splitN_len c r
      revert h ih
      cases e : splitN c r with
      | nil => exact absurd e (splitN_ne _ _)
      | cons q ps =>
        intro h ih
        rcases List.mem_cons.mp h with rfl | h
        · have := ih q (List.mem_cons_self ..)
          simp
          exact this
        · exact Nat.le_succ_of_le (ih p (List.mem_cons_of_mem _ h))
theorem splitN_count (c : Nat) : ∀ l : List Nat, (splitN c l).length ≤ l.length + 1
  | [] => by simp [splitN]
  | x :: r => by
    have ih := splitN_count c r
    rw [splitN]
    split
    · simp
      omega
    · revert ih
      cases e : splitN c r with
      | nil => exact absurd e (splitN_ne _ _)
      | cons q ps =>
        intro ih
        simp at ih ⊢
        omega
theorem split_len {y : Str} {c : Nat} (hy : tl y = [c]) (hc : c < 256) {x p : Str} (h : p ∈ Txt.split x y) : p.length ≤ x.length := by
  rw [split_one hy hc] at h
  obtain ⟨q, hq, rfl⟩ := List.mem_map.mp h
  rw [len_mk, len_tl]
  exact splitN_len c _ q hq
theorem split_many {y : Str} {c : Nat} (hy : tl y = [c]) (hc : c < 256) {x : Str} : (Txt.split x y).length ≤ x.length + 1 := by
  rw [split_one hy hc, List.length_map, len_tl]
  exact splitN_count c _
theorem sum_take_le : ∀ (l : List Nat) (i : Nat), (l.take i).sum ≤ l.sum
  | [], i => by simp
  | a :: l, 0 => by simp
  | a :: l, i + 1 => by
    have := sum_take_le l i
    rw [List.take_succ_cons, List.sum_cons, List.sum_cons]
    omega
theorem splitN_sum (c : Nat) : ∀ l : List Nat, ((splitN c l).map List.length).sum ≤ l.length
  | [] => by simp [splitN]
  | x :: r => by
    have ih := splitN_sum c r
    rw [splitN]
    split
    · simp
      omega
    · revert ih
      cases e : splitN c r with
      | nil => exact absurd e (splitN_ne _ _)
      | cons q ps =>
        intro ih
        simp at ih ⊢
        omega
theorem sum_split {y : Str} {c : Nat} (hy : tl y = [c]) (hc : c < 256) (x : Str) (i : Nat) : (((Txt.split x y).take i).map (·.length)).sum ≤ x.length := by
  rw [List.map_take]
  refine Nat.le_trans (sum_take_le _ i) ?_
  rw [split_one hy hc, List.map_map]
  have : ((fun (s : Str) => s.length) ∘ mk) = List.length := by
    funext l
    exact len_mk l
  rw [this, len_tl]
  exact splitN_sum c _
/-- join -/
theorem splitN_free {c : Nat} : ∀ {p : List Nat}, c ∉ p → splitN c p = [p]
  | [], _ => rfl
  | x :: r, h => by
    have h1 : x ≠ c := fun e => h (by rw [e]; exact List.mem_cons_self ..)
    have h2 : c ∉ r := fun e => h (List.mem_cons_of_mem _ e)
    rw [splitN, if_neg h1, splitN_free h2]
theorem splitN_app {c : Nat} : ∀ {p : List Nat} (r : List Nat), c ∉ p → splitN c (p ++ c :: r) = p :: splitN c r
  | [], r, _ => by simp [splitN]
  | x :: p, r, h => by
    have h1 : x ≠ c := fun e => h (by rw [e]; exact List.mem_cons_self ..)
    have h2 : c ∉ p := fun e => h (List.mem_cons_of_mem _ e)
    rw [List.cons_append, splitN, if_neg h1, splitN_app r h2]
theorem splitN_free_all {c : Nat} : ∀ (l : List Nat) (p : List Nat), p ∈ splitN c l → c ∉ p
  | [], p, h => by
    simp [splitN] at h
    simp [h]
  | x :: r, p, h => by
    rw [splitN] at h
    split at h
    · rcases List.mem_cons.mp h with rfl | h
      · simp
      · exact splitN_free_all r p h
    · rename_i hx
      have ih := splitN_free_all (c := c) r
      revert h ih
      cases e : splitN c r with
      | nil => exact absurd e (splitN_ne _ _)
      | cons q ps =>
        intro h ih
        rcases List.mem_cons.mp h with rfl | h
        · have := ih q (List.mem_cons_self ..)
          simp
          exact ⟨fun z => hx z.symm, this⟩
        · exact ih p (List.mem_cons_of_mem _ h)
theorem splitN_join {c : Nat} : ∀ {parts : List (List Nat)}, parts ≠ [] → (∀ p ∈ parts, c ∉ p) → splitN c (joinL [c] parts) = parts
  | [], h, _ => absurd rfl h
  | [p], _, h => by
    show splitN c p = [p]
    exact splitN_free (h p (List.mem_cons_self ..))
  | p :: q :: r, _, h => by
    show splitN c (p ++ c :: joinL [c] (q :: r)) = _
    rw [splitN_app _ (h p (List.mem_cons_self ..)), splitN_join (by simp) fun x hx => h x (List.mem_cons_of_mem _ hx)]
theorem join_splitN (c : Nat) : ∀ l : List Nat, joinL [c] (splitN c l) = l
  | [] => rfl
  | x :: r => by
    have ih := join_splitN c r
    rw [splitN]
    split
    · rename_i hx
      subst hx
      revert ih
      cases e : splitN x r with
      | nil => exact absurd e (splitN_ne _ _)
      | cons q ps =>
        intro ih
        show x :: joinL [x] (q :: ps) = x :: r
        rw [ih]
    · revert ih
      cases e : splitN c r with
      | nil => exact absurd e (splitN_ne _ _)
      | cons q ps =>
        intro ih
        cases ps with
        | nil =>
          show x :: q = x :: r
          rw [show q = r from ih]
        | cons q2 ps =>
          show x :: (q ++ c :: joinL [c] (q2 :: ps)) = x :: r
          rw [← ih]
          rfl
theorem tl_joinT (y : Str) (parts : List Str) : tl (Txt.join y parts) = joinL (tl y) (parts.map tl) := by rw [join_eq, tl_join]
theorem join_mk {y : Str} {c : Nat} (hy : tl y = [c]) (ps : List (List Nat)) : Txt.join y (ps.map mk) = mk (joinL [c] ps) := by
  apply ext_tl
  rw [tl_joinT, hy, List.map_map]
  have : (tl ∘ mk) = id := rfl
  rw [this, List.map_id]
  rfl
theorem joinL_len (c : Nat) : ∀ ps : List (List Nat), (joinL [c] ps).length ≤ (ps.map List.length).sum + ps.length
  | [] => by simp [joinL]
  | [p] => by simp [joinL]
  | p :: q :: r => by
    have ih := joinL_len c (q :: r)
    show (p ++ c :: joinL [c] (q :: r)).length ≤ _
    simp at ih ⊢
    omega
theorem at_one {x y : Str} {c : Nat} (hy : tl y = [c]) (i : Nat) : PySem.StrLaws.At x y x.length i ↔ (tl x)[i]? = some c := by
  rw [at_iff (by rw [hy]; simp), hy]
  unfold pre
  rw [show ([c] : List Nat).length = 1 from rfl]
  constructor
  · intro h
    have h' := beq_iff_eq.mp h
    cases e : (tl x).drop i with
    | nil => rw [e] at h'; cases h'
    | cons z r =>
      rw [e] at h'
      have hz : z = c := by simpa using h'
      subst hz
      have : ((tl x).drop i)[0]? = some z := by rw [e]; rfl
      rwa [List.getElem?_drop, Nat.add_zero] at this
  · intro h
    have : ((tl x).drop i)[0]? = some c := by rwa [List.getElem?_drop, Nat.add_zero]
    cases e : (tl x).drop i with
    | nil => rw [e] at this; cases this
    | cons z r =>
      rw [e] at this
      have hz : z = c := by simpa using this
      subst hz
      simp
theorem rpart_none {x y : Str} {c : Nat} (hy : tl y = [c]) (h : c ∉ tl x) : Txt.rpartition x y = (Str.empty, Str.empty, x) := by
  unfold Txt.rpartition
  rcases PySem.StrLaws.last_spec x y with ⟨e, _⟩ | ⟨i, e, a, _⟩
  · rw [e]
  · exact absurd (List.mem_of_getElem? ((at_one hy i).mp a)) h
theorem rpart_some {x y : Str} {c : Nat} {a b : List Nat} (hy : tl y = [c]) (hx : tl x = a ++ c :: b) (h : c ∉ b) : Txt.rpartition x y = (mk a, y, mk b) := by
  unfold Txt.rpartition
  have hl : y.length = 1 := by rw [len_tl, hy]; rfl
  have ha : PySem.StrLaws.At x y x.length a.length := by
    rw [at_one hy, hx]
    simp
  rcases PySem.StrLaws.last_spec x y with ⟨e, n⟩ | ⟨i, e, at1, n⟩
  · exact absurd ha (n _)
  · have hi : i = a.length := by
      rcases Nat.lt_trichotomy i a.length with l | l | l
      · exact absurd ha (n _ l)
      · exact l
      · exfalso
        rw [at_one hy, hx, List.getElem?_append_right (Nat.le_of_lt l)] at at1
        obtain ⟨k, hk⟩ : ∃ k, i - a.length = k + 1 := ⟨i - a.length - 1, by omega⟩
        rw [hk, List.getElem?_cons_succ] at at1
        exact h (List.mem_of_getElem? at1)
    rw [e]
    subst hi
    show (Builtin.Str.strSub x 0 a.length, y, Builtin.Str.strSub x (a.length + y.length) x.length) = _
    have e1 : Builtin.Str.strSub x 0 a.length = mk a := by
      apply ext_tl
      rw [tl_strSub, hx]
      show ((a ++ c :: b).drop 0).take (a.length - 0) = a
      simp
    have e2 : Builtin.Str.strSub x (a.length + y.length) x.length = mk b := by
      apply ext_tl
      rw [tl_strSub_end, hx, hl]
      show (a ++ c :: b).drop (a.length + 1) = b
      simp
    rw [e1, e2]
theorem cutD_take {α : Type} (l : List α) (n : Nat) : DL.cutD l none (some (n : Int)) = l.take n := by
  unfold DL.cutD
  rw [HT.sIx_none, HT.sIx_nat, List.drop_zero, Nat.sub_zero]
  by_cases h : n ≤ l.length
  · rw [Nat.min_eq_left h]
  · rw [Nat.min_eq_right (by omega), List.take_length, List.take_of_length_le (by omega)]
theorem cutS_len (z : Str) (lo hi : Option Int) : (cutS z lo hi).length ≤ z.length := by
  unfold cutS
  show (List.toArray _).size ≤ z.length
  rw [List.size_toArray, List.length_take, List.length_drop]
  have : z.cps.toList.length = z.length := (len_tl z).symm
  omega
theorem add_len (x y : Str) : (x ++ y).length = x.length + y.length := by rw [len_tl, tl_append, List.length_append, ← len_tl, ← len_tl]
end TX

set_option linter.all false
set_option maxRecDepth 100000
set_option maxHeartbeats 4000000
/-! DLp: a pile (a list of one whole number that is drawn from) handed on. -/
namespace DL
open PySem PySem.Spec PyProof.Rows L2
/-- the pile at p holds n -/
structure Pl (p : Addr) (n : Int) (B H : Hp) : Prop where
  x : Same B H
  hb : B p = none
  at_ : H p = some (.lst [.int n])
/-- from (B, H) on: the pile at p may have changed, all else that is not new stands -/
structure Mv (p : Addr) (B H B' H' : Hp) : Prop where
  b : Same B B'
  x : Same B' H'
  hid : ∀ a o, B a = none → H a = some o → B' a = none ∧ (a ≠ p → H' a = some o)
  there : ∀ o, H p = some o → ∃ u, H' p = some u
section
variable {p : Addr} {n m k : Int} {B H B1 H1 B2 H2 : Hp}
theorem Mv.refl (e : Same B H) : Mv p B H B H := ⟨Same.refl B, e, fun _ _ h1 h2 => ⟨h1, fun _ => h2⟩, fun o h => ⟨o, h⟩⟩
theorem Mv.trans (a : Mv p B H B1 H1) (c : Mv p B1 H1 B2 H2) : Mv p B H B2 H2 := ⟨a.b.trans c.b, c.x, fun q o h1 h2 => by
  obtain ⟨z1, z2⟩ := a.hid q o h1 h2
  by_cases hq : q = p
  · subst hq
    obtain ⟨u, e⟩ := a.there o h2
    exact ⟨(c.hid q u z1 e).1, fun h => absurd rfl h⟩
  · exact ⟨(c.hid q o z1 (z2 hq)).1, fun _ => (c.hid q o z1 (z2 hq)).2 hq⟩, fun o h => let ⟨u, e⟩ := a.there o h; c.there u e⟩
theorem Pu.mv (a : Pu B H B1 H1) (h : H p = some (.lst [.int n])) (hb : B p = none) : Mv p B H B1 H1 := ⟨a.b, a.x, fun q o h1 h2 => ⟨(a.hid q o h1 h2).1, fun _ => (a.hid q o h1 h2).2⟩, fun o h1 => ⟨_, (a.hid p _ hb h1).2⟩⟩
theorem Pl.pu (l : Pl p n B H) (a : Pu B H B1 H1) : Pl p n B1 H1 := ⟨a.x, (a.hid p _ l.hb l.at_).1, (a.hid p _ l.hb l.at_).2⟩
theorem Pl.mv (l : Pl p n B H) (a : Pu B H B1 H1) : Mv p B H B1 H1 := a.mv l.at_ l.hb
end
def EP (K : PySem.W.Frag) (p : Addr) (t : TE) (σ : L2.St) (B : Hp) (n : Int) (d : Dt) (n2 : Int) : Prop := ∀ B1 H1, Same B B1 → Pl p n B1 H1 → ∀ Q : VK, (∀ v B2 H2, Mv p B1 H1 B2 H2 → Pl p n2 B2 H2 → Rp K B2 v d → Q v H2) → t σ H1 Q
def EPA (K : PySem.W.Frag) (p : Addr) (t : TA) (σ : L2.St) (B : Hp) (n : Int) (ds : List Dt) (n2 : Int) : Prop := ∀ B1 H1, Same B B1 → Pl p n B1 H1 → ∀ Q : List V → Hp → Prop, (∀ vs B2 H2, Mv p B1 H1 B2 H2 → Pl p n2 B2 H2 → RpL K B2 vs ds → Q vs H2) → t σ H1 Q
def EPT (p : Addr) (t : TT) (σ : L2.St) (B : Hp) (n : Int) (b : Bool) (n2 : Int) : Prop := ∀ B1 H1, Same B B1 → Pl p n B1 H1 → ∀ Q : Bool → Hp → Prop, (∀ B2 H2, Mv p B1 H1 B2 H2 → Pl p n2 B2 H2 → Q b H2) → t σ H1 Q
def EPS (K : PySem.W.Frag) (p : Addr) (wi : TI) (σ : L2.St) (B : Hp) (n : Int) (ds : List Dt) (n2 : Int) : Prop := ∀ B1 H1, Same B B1 → Pl p n B1 H1 → ∀ R : It → Hp → Prop, (∀ J B2 H2, Mv p B1 H1 B2 H2 → Pl p n2 B2 H2 → YD K J B2 ds → R J H2) → wi σ H1 R
/-- a pile first, data behind it: f tells the answer and what is left -/
def PP (K : PySem.W.Frag) (dom : List Dt → Prop) (f : List Dt → Int → Dt × Int) : Sp := fun vs H Q _ => ∃ p ws ds B n, vs = .ref p :: ws ∧ Pl p n B H ∧ RpL K B ws ds ∧ dom ds ∧ ∀ v B2 H2, Mv p B H B2 H2 → Pl p (f ds n).2 B2 H2 → Rp K B2 v (f ds n).1 → Q v H2
section
variable {K : PySem.W.Frag} {p : Addr} {σ : L2.St} {B B' H : Hp} {n n1 n2 n3 : Int} {ta tb te to : TE} {t u : TT} {a b c d : Dt} {ds es : List Dt} {ts : TA} {r : R2} {wi : TI} {tt : TT}
theorem ep_of (h : ED K te σ B d) : EP K p te σ B n d n := fun B1 H1 e1 l Q q => h B1 H1 e1 l.x Q fun v B2 H2 p2 r => q v B2 H2 (l.mv p2) (l.pu p2) r
theorem epa_of (h : EA K ts σ B ds) : EPA K p ts σ B n ds n := fun B1 H1 e1 l Q q => h B1 H1 e1 l.x Q fun v B2 H2 p2 r => q v B2 H2 (l.mv p2) (l.pu p2) r
theorem eps_of (h : ES K wi σ B ds) : EPS K p wi σ B n ds n := fun B1 H1 e1 l R q => h B1 H1 e1 l.x R fun J B2 H2 p2 r => q J B2 H2 (l.mv p2) (l.pu p2) r
theorem ept_of {k : Bool} (h : ET t σ B k) : EPT p t σ B n k n := fun B1 H1 e1 l Q q => h B1 H1 e1 l.x Q fun B2 H2 p2 => q B2 H2 (l.mv p2) (l.pu p2)
theorem ep_is (h : EP K p te σ B n c n1) (e : c = d) (e2 : n1 = n2) : EP K p te σ B n d n2 := e ▸ e2 ▸ h
theorem EP.mono (e : Same B B') (h : EP K p te σ B n d n2) : EP K p te σ B' n d n2 := fun B1 H1 e1 => h B1 H1 (e.trans e1)
theorem epa_nil : EPA K p tNil σ B n [] n := epa_of ea_nil
theorem epa_cons {tr : TA} (h : EP K p ta σ B n d n1) (hr : EPA K p tr σ B n1 ds n2) : EPA K p (tCons ta tr) σ B n (d :: ds) n2 := fun B1 H1 e1 l Q q =>
  h B1 H1 e1 l _ fun x B2 H2 m2 l2 rx => hr B2 H2 (e1.trans m2.b) l2 _ fun xs B3 H3 m3 l3 rxs => q (x :: xs) B3 H3 (m2.trans m3) l3 (.cons (rx.mono m3.b) rxs)
theorem ep_op (ha : EP K p ta σ B n a n1) (hb : EP K p tb σ B n1 b n2) (hr : RD K r a b c) : EP K p (tOp r ta tb) σ B n c n2 := fun B1 H1 e1 l Q q =>
  ha B1 H1 e1 l _ fun x B2 H2 m2 l2 rx => hb B2 H2 (e1.trans m2.b) l2 _ fun y B3 H3 m3 l3 ry => hr B3 H3 x y l3.x (rx.mono m3.b) ry Q fun v B4 H4 p4 rv => q v B4 H4 ((m2.trans m3).trans (l3.mv p4)) (l3.pu p4) rv
theorem ep_lst (h : EPA K p ts σ B n ds n1) (hl : ds.length ≤ 1000000) : EP K p (tLst ts) σ B n (.lst ds) n1 := fun B1 H1 e1 l Q q =>
  h B1 H1 e1 l _ fun xs B2 H2 m2 l2 rx => ⟨by rw [rx.len]; exact Nat.le_trans hl (by decide), fun z hz => by
    have pu := Pu.new (o := .lst xs) l2.x hz
    exact q (.ref z) _ _ (m2.trans (l2.mv pu)) (l2.pu pu) (.lst upd_same (rx.mono pu.b))⟩
theorem ep_bm {T : String} {r : V → List V → Hp → VK → Prop} (ho : EP K p to σ B n a n1) (ht : tyD T a) (h : EPA K p ts σ B n1 ds n2) (hr : RM K r a ds c) : EP K p (tBM K T r to ts) σ B n c n2 := fun B1 H1 e1 l Q q =>
  ho B1 H1 e1 l _ fun x B2 H2 m2 l2 rx => ⟨(rx.mono l2.x).tyv ht, h B2 H2 (e1.trans m2.b) l2 _ fun xs B3 H3 m3 l3 rxs => hr B3 H3 x xs l3.x (rx.mono m3.b) rxs Q fun v B4 H4 p4 rv => q v B4 H4 ((m2.trans m3).trans (l3.mv p4)) (l3.pu p4) rv⟩
theorem ep_cb {r : List V → Hp → VK → Prop} (h : EPA K p ts σ B n ds n1) (hr : RC K r ds c) : EP K p (tCB r ts) σ B n c n1 := fun B1 H1 e1 l Q q =>
  h B1 H1 e1 l _ fun xs B2 H2 m2 l2 rx => hr B2 H2 xs l2.x rx Q fun v B4 H4 p4 rv => q v B4 H4 (m2.trans (l2.mv p4)) (l2.pu p4) rv
/-- a def that draws -/
theorem ep_call {dom : List Dt → Prop} {f : List Dt → Int → Dt × Int} {E : XK} {i : Nat} (hi : σ[i]? = some (some (.ref p))) (h : EPA K p ts σ B n ds n1) (hd : dom ds) : EP K p (tCall (PP K dom f) [] E (tCons (tVar i) ts)) σ B n (f ds n1).1 (f ds n1).2 := fun B1 H1 e1 l Q q =>
  ⟨_, hi, h B1 H1 e1 l _ fun xs B2 H2 m2 l2 rx => ⟨p, xs, ds, B2, n1, by rw [List.append_nil], l2, rx, hd, fun v B3 H3 m3 l3 rv => q v B3 H3 (m2.trans m3) l3 rv⟩⟩
/-- a def of data, its arguments drawn -/
theorem ep_callF {dom : List Dt → Prop} {g : List Dt → Dt} {E : XK} (h : EPA K p ts σ B n ds n1) (hd : dom ds) : EP K p (tCall (PF K dom g) [] E ts) σ B n (g ds) n1 := fun B1 H1 e1 l Q q =>
  h B1 H1 e1 l _ fun xs B2 H2 m2 l2 rx => ⟨B2, ds, l2.x, by rw [List.append_nil]; exact rx, hd, fun v B3 H3 p3 rv => q v B3 H3 (m2.trans (l2.mv p3)) (l2.pu p3) rv⟩
theorem ept_test {k : Bool} (h : EP K p te σ B n (.bl k) n1) : EPT p (tTest te) σ B n k n1 := fun B1 H1 e1 l Q q => h B1 H1 e1 l _ fun v B2 H2 m2 l2 rv => by
  cases rv
  exact ⟨k, rfl, q B2 H2 m2 l2⟩
theorem ept_B {k : Bool} (h : EP K p te σ B n (.bl k) n1) : EPT p (tB te) σ B n k n1 := fun B1 H1 e1 l Q q => h B1 H1 e1 l _ fun v B2 H2 m2 l2 rv => by
  cases rv
  exact ⟨k, rfl, q B2 H2 m2 l2⟩
theorem ept_not {k : Bool} (h : EPT p t σ B n k n1) : EPT p (tNot t) σ B n (!k) n1 := fun B1 H1 e1 l Q q => h B1 H1 e1 l _ fun B2 H2 m2 l2 => q B2 H2 m2 l2
theorem eps_rng1 {k : Int} (h : EPA K p ts σ B n [.int k] n1) (h1 : -1000000000 ≤ k ∧ k ≤ 1000000000) : EPS K p (iRng1 ts) σ B n (rngD 0 k.toNat) n1 := fun B1 H1 e1 l R q => h B1 H1 e1 l _ fun v B2 H2 m2 l2 rv => by
  cases rv with
  | cons r1 r2 =>
    cases r2
    cases r1
    exact ⟨k, rfl, by omega, by omega, q _ B2 H2 m2 l2 (yd_rng 0 k.toNat)⟩
/-- draws, one behind the other -/
def drawL {α β : Type} (f : α → Int → β × Int) : List α → Int → List β × Int
  | [], n => ([], n)
  | x :: r, n => ((f x n).1 :: (drawL f r (f x n).2).1, (drawL f r (f x n).2).2)
theorem drawL_take {α β : Type} (f : α → Int → β × Int) : ∀ (l : List α) (i : Nat) (x : α) (n : Int), l[i]? = some x →
    drawL f (l.take (i + 1)) n = ((drawL f (l.take i) n).1 ++ [(f x (drawL f (l.take i) n).2).1], (f x (drawL f (l.take i) n).2).2)
  | [], i, x, n, h => by simp at h
  | y :: r, 0, x, n, h => by
    simp at h
    subst h
    rfl
  | y :: r, i + 1, x, n, h => by
    rw [List.getElem?_cons_succ] at h
    have ih := drawL_take f r i x (f y n).2 h
    show (_, _) = _
    rw [show (y :: r).take (i + 1) = y :: r.take i from rfl]
    simp only [drawL, List.take_succ_cons, ih]
    rfl
theorem drawL_len {α β : Type} (f : α → Int → β × Int) : ∀ (l : List α) (n : Int), (drawL f l n).1.length = l.length
  | [], _ => rfl
  | x :: r, n => congrArg Nat.succ (drawL_len f r (f x n).2)
theorem drawL_all {α β : Type} {f : α → Int → β × Int} {P : β → Prop} (h : ∀ x n, P (f x n).1) : ∀ (l : List α) (n : Int) (y : β), y ∈ (drawL f l n).1 → P y
  | [], n, y, hy => by simp [drawL] at hy
  | x :: r, n, y, hy => by
    rcases List.mem_cons.mp hy with e | hy
    · rw [e]
      exact h x n
    · exact drawL_all h r _ y hy
/-- [e for x in ..], e drawing -/
theorem ep_lc {j : Nat} {vs : List Nat} (f : Dt → Int → Dt × Int) (hs : EPS K p wi σ B n ds n1) (hl : ds.length ≤ 1000000) (hw : ∀ x, wipe ((wipe σ vs).set j (some x)) vs = wipe σ vs)
    (he : ∀ d, d ∈ ds → ∀ m v B', Same B B' → Rp K B' v d → EP K p te ((wipe σ vs).set j (some v)) B' m (f d m).1 (f d m).2) :
    EP K p (tLc wi (gName j) tYes te vs) σ B n (.lst (drawL f ds n1).1) (drawL f ds n1).2 := fun B1 H1 e1 l Q q => hs B1 H1 e1 l _ fun J B2 H2 m2 l2 hy D hD => by
  have pD : p ≠ D := ne_of_none l2.at_ hD
  refine ⟨fun i m H => m = ds.length - i ∧ i ≤ ds.length ∧ ∃ Bi acc, Mv p B2 H2 Bi H ∧ Pl p (drawL f (ds.take i) n1).2 Bi H ∧ Bi D = none ∧ H D = some (.lst acc) ∧ RpL K Bi acc (drawL f (ds.take i) n1).1,
    ⟨ds.length, rfl, Nat.zero_le _, B2, [], l2.mv (Pu.newH l2.x hD), l2.pu (Pu.newH l2.x hD), l2.x.free hD, upd_same, ?_⟩, ?_⟩
  · rw [List.take_zero]
    exact .nil
  · rintro i m H ⟨rfl, hi, Bi, acc, pi, li, hb, hh, hr⟩
    have eB : Same B Bi := (e1.trans m2.b).trans pi.b
    have y := hy i Bi H pi.b pi.x
    by_cases hlt : i < ds.length
    · have hd : ds[i]? = some ds[i] := List.getElem?_eq_getElem hlt
      have hm : ds[i] ∈ ds := List.getElem_mem hlt
      obtain ⟨hgo, hyl⟩ := y.2 _ hd
      refine .inr ⟨hgo, fun H' => ∃ Bi' acc', Mv p B2 H2 Bi' H' ∧ Pl p (drawL f (ds.take (i + 1)) n1).2 Bi' H' ∧ Bi' D = none ∧ H' D = some (.lst acc') ∧ RpL K Bi' acc' (drawL f (ds.take (i + 1)) n1).1, ?_, fun x H' hx => ?_⟩
      · rintro H' ⟨Bi', acc', z⟩
        exact ⟨ds.length - (i + 1), by omega, rfl, hlt, Bi', acc', z⟩
      · obtain ⟨B3, p3, rx⟩ := hyl x H' hx
        have e3 : Same B B3 := eB.trans p3.b
        have d3 := p3.hid D _ hb hh
        have l3 := li.pu p3
        have m3 := li.mv p3
        refine ⟨hw x, ?_⟩
        dsimp only [tYes]
        rw [if_pos rfl]
        have key := drawL_take f ds i _ n1 hd
        refine he _ hm _ x B3 e3 rx B3 H' (Same.refl _) l3 _ fun v B5 H5 m5 l5 rv => ?_
        have d5 := m5.hid D _ d3.1 d3.2
        have hacc : acc.length ≤ 1000000 := by
          rw [hr.len, drawL_len]
          exact Nat.le_trans (by rw [List.length_take]; exact Nat.min_le_right _ _) hl
        have pw := pi.trans (m3.trans m5)
        refine ⟨acc, d5.2 pD.symm, Nat.lt_of_le_of_lt hacc (by decide), B5, acc ++ [v], ?_, ?_, d5.1, upd_same, ?_⟩
        · refine ⟨pw.b, same_hid pw.x d5.1, fun a o h1 h2 => ?_, fun o h => ?_⟩
          · have hne : a ≠ D := ne_of_none h2 hD
            rw [upd_ne hne]
            exact pw.hid a o h1 h2
          · rw [upd_ne pD]
            exact pw.there o h
        · rw [key]
          exact ⟨same_hid l5.x d5.1, l5.hb, by rw [upd_ne pD]; exact l5.at_⟩
        · rw [key]
          exact (hr.mono (m3.trans m5).b).app (.cons rv .nil)
    · have ei : i = ds.length := by omega
      subst ei
      refine .inl ⟨y.1 (Nat.le_refl _), ?_⟩
      rw [List.take_length] at hr li
      have hs2 : B2 D = none := l2.x.free hD
      refine q (.ref D) (upd Bi D (.lst acc)) H ?_ ⟨fun a u e => ?_, ?_, li.at_⟩ (.lst upd_same (hr.mono (same_upd hb)))
      · have pw := m2.trans pi
        refine ⟨pw.b.trans (same_upd hb), fun a u e => ?_, fun a o h1 h2 => ?_, pw.there⟩
        · by_cases ha : a = D
          · subst ha
            rw [upd_same] at e
            cases e
            exact hh
          · rw [upd_ne ha] at e
            exact pw.x a u e
        · have z := pw.hid a o h1 h2
          have hne : a ≠ D := by
            rintro rfl
            by_cases hp : a = p
            · exact pD hp.symm
            · have := (m2.hid a o h1 h2).2 hp
              rw [hD] at this
              cases this
          rw [upd_ne hne]
          exact z
      · by_cases ha : a = D
        · subst ha
          rw [upd_same] at e
          cases e
          exact hh
        · rw [upd_ne ha] at e
          exact li.x a u e
      · rw [upd_ne pD]
        exact li.hb
/-! ### statements -/
variable {D : Ends} {tu tw tz : TS}
theorem y_ret (h : EP K p te σ B n d n1) (l : Pl p n B H) (k : ∀ v B2 H2, Mv p B H B2 H2 → Pl p n1 B2 H2 → Rp K B2 v d → D.rt v H2) : tRet te D σ H := h B H (Same.refl B) l D.rt k
theorem y_asg {i : Nat} (h : EP K p te σ B n d n1) (l : Pl p n B H) (k : ∀ v B2 H2, Mv p B H B2 H2 → Pl p n1 B2 H2 → Rp K B2 v d → tz D (σ.set i (some v)) H2) : tSeq (tAsg te (gName i)) tz D σ H := h B H (Same.refl B) l _ k
theorem y_if {k : Bool} (h : EPT p t σ B n k n1) (l : Pl p n B H) (h1 : k = true → ∀ B2 H2, Mv p B H B2 H2 → Pl p n1 B2 H2 → tu { D with nx := tz D } σ H2) (h2 : k = false → ∀ B2 H2, Mv p B H B2 H2 → Pl p n1 B2 H2 → tw { D with nx := tz D } σ H2) : tSeq (tIfS t tu tw) tz D σ H :=
  h B H (Same.refl B) l _ fun B2 H2 m l2 => by
    cases k with
    | true => exact h1 rfl B2 H2 m l2
    | false => exact h2 rfl B2 H2 m l2
theorem y_when {k : Bool} (h : EPT p t σ B n k n1) (l : Pl p n B H) (h1 : k = true → ∀ B2 H2, Mv p B H B2 H2 → Pl p n1 B2 H2 → tu { D with nx := tz D } σ H2) (h2 : k = false → ∀ B2 H2, Mv p B H B2 H2 → Pl p n1 B2 H2 → tz D σ H2) : tSeq (tIfS t tu tNext) tz D σ H :=
  y_if (tw := tNext) h l h1 h2
theorem Pu.mvf {B0 H0 B1 H1 : Hp} (a : Pu B0 H0 B H) (hp : H0 p = none) (m : Mv p B H B1 H1) : Pu B0 H0 B1 H1 := ⟨a.b.trans m.b, m.x, fun q o h1 h2 => by
  have hne : q ≠ p := ne_of_none h2 hp
  obtain ⟨z1, z2⟩ := a.hid q o h1 h2
  exact ⟨(m.hid q o z1 z2).1, (m.hid q o z1 z2).2 hne⟩⟩
theorem eps_list (h : EP K p ta σ B n (.lst ds) n1) : EPS K p (iList K ta) σ B n ds n1 := fun B1 H1 e1 l R q => h B1 H1 e1 l _ fun v B2 H2 m2 l2 rv => by
  cases rv with
  | lst h1 r1 => exact ⟨_, rfl, ⟨_, .inl (.inl (l2.x _ _ h1))⟩, q _ B2 H2 m2 l2 (yd_list h1 r1)⟩
theorem y_forE {j : Nat} (hs : EPS K p wi σ B n ds n1) (l : Pl p n B H) (k : ∀ B2 H2, Mv p B H B2 H2 → Pl p n1 B2 H2 → ∃ Pv : Nat → L2.St → Hp → Hp → Prop, Pv 0 σ B2 H2 ∧ (∀ i σ' B' H', Pv i σ' B' H' → Same B2 B' ∧ Same B' H') ∧
    (∀ i d σ' B' H', ds[i]? = some d → Pv i σ' B' H' → ∀ v B3 H3, Pu B' H' B3 H3 → Rp K B3 v d →
      tu { D with nx := fun s h => ∃ b, Pv (i + 1) s b h, ct := fun s h => ∃ b, Pv (i + 1) s b h, bk := D.nx } (σ'.set j (some v)) H3) ∧
    (∀ σ' B' H', Pv ds.length σ' B' H' → D.nx σ' H')) : tFor wi (gName j) tu D σ H := hs B H (Same.refl B) l _ fun J B2 H2 m2 l2 hy => by
  obtain ⟨Pv, h0, hw, hst, hd⟩ := k B2 H2 m2 l2
  refine ⟨fun i m s h => m = ds.length - i ∧ i ≤ ds.length ∧ ∃ b, Pv i s b h, ⟨ds.length, rfl, Nat.zero_le _, B2, h0⟩, ?_⟩
  rintro i m s h ⟨rfl, hi, b, pv⟩
  obtain ⟨e1, e2⟩ := hw _ _ _ _ pv
  have y := hy i b h e1 e2
  by_cases hlt : i < ds.length
  · have hdd : ds[i]? = some ds[i] := List.getElem?_eq_getElem hlt
    obtain ⟨hgo, hyl⟩ := y.2 _ hdd
    refine .inr ⟨hgo, fun s h => ∃ b, Pv (i + 1) s b h, fun s' h' ⟨b', z⟩ => ⟨ds.length - (i + 1), by omega, rfl, hlt, b', z⟩, fun x H' hx => ?_⟩
    obtain ⟨B3, p3, rx⟩ := hyl x H' hx
    exact hst i _ s b h hdd pv x B3 H' p3 rx
  · have ei : i = ds.length := by omega
    subst ei
    exact .inl ⟨y.1 (Nat.le_refl _), hd s b h pv⟩
theorem y_for {j : Nat} (hs : EPS K p wi σ B n ds n1) (l : Pl p n B H) (k : ∀ B2 H2, Mv p B H B2 H2 → Pl p n1 B2 H2 → ∃ Pv : Nat → L2.St → Hp → Hp → Prop, Pv 0 σ B2 H2 ∧ (∀ i σ' B' H', Pv i σ' B' H' → Same B2 B' ∧ Same B' H') ∧
    (∀ i d σ' B' H', ds[i]? = some d → Pv i σ' B' H' → ∀ v B3 H3, Pu B' H' B3 H3 → Rp K B3 v d →
      tu { D with nx := fun s h => ∃ b, Pv (i + 1) s b h, ct := fun s h => ∃ b, Pv (i + 1) s b h, bk := tz D } (σ'.set j (some v)) H3) ∧
    (∀ σ' B' H', Pv ds.length σ' B' H' → tz D σ' H')) : tSeq (tFor wi (gName j) tu) tz D σ H := y_forE (D := { D with nx := tz D }) hs l k
end
section
variable {P : Program} {w : World} {K : PySem.W.Frag} {mg : Str → Option Value} {base : Heap}
theorem ok_pp {x : Str} {st : Stmt} {f : Addr} {fd : FuncData} {N ps : List Str} {k : Nat} {dom : List Dt → Prop} {g : List Dt → Int → Dt × Int} (F : Fun K x x st f fd) (S : FnScope N ps (defScope st)) (len : ∀ ds, dom ds → ds.length + 1 = ps.length)
    (hbody : ∀ (cdv : Value) (A : Around) (outer : List Env) (s : Shared) (H : Hp) (E : XK), Room k (A.deeper (envOfC x (defScope st) s.heap.objs.size f cdv)) →
      ∃ t, PSs (cxOf CX0 P w K mg base N x (defScope st) f cdv A outer s H E).nox (defBody st) t ∧ ∀ (p : Addr) (n : Int) (B : Hp) (ws : List V) (ds : List Dt) (Q : VK), Pl p n B H → RpL K B ws ds → dom ds →
        (∀ v B2 H2, Mv p B H B2 H2 → Pl p (g ds n).2 B2 H2 → Rp K B2 v (g ds n).1 → Q v H2) → t { nx := fun _ H' => Q .non H', rt := Q } (start N (.ref p :: ws)) H) :
    FnOk P w K mg base CX0 (k + 1) f fd ps (PP K dom g) :=
  F.ok S (fun vs H Q E ⟨p, ws, ds, B, n, h, _, r, hd, _⟩ => by rw [h, List.length_cons, r.len]; exact len ds hd) fun cdv A outer s H vs Q E hr ⟨p, ws, ds, B, n, h, l, r, hd, q⟩ => by
    subst h
    obtain ⟨t, h, hq⟩ := hbody cdv A outer s H E hr
    exact ⟨t, h, hq p n B ws ds Q l r hd q⟩
end
end DL

set_option linter.all false
set_option maxRecDepth 100000
set_option maxHeartbeats 4000000
/-! DLr: a display whose items call replace: a token is there behind a written text. -/
namespace DL
open PySem PySem.Spec PyProof.Rows L2
section
variable {X : Cx} {es : List Expr} {t : TA} {te ta : TE} {e a : Expr}
theorem pat_of (h : PA X es t) : PAT X es t := fun pos pins s σ H Q _ I q => h.run pos pins s σ H Q I q
theorem pat_consE (ha : PET X e te) (hr : PAT X es t) (hs : starEach (e :: es) X.env = (false, eval e X.env) :: starEach es X.env := by rfl) : PAT X (e :: es) (tCons te t) := by
  intro pos pins s σ H Q h0 I h
  rw [hs]
  show wpAny _ _ (spliced ((false, eval e X.env) :: backTo pos (starEach es X.env))) _ _ s
  refine Calls.spliced_cons (wpAny_mono (PySem.wpAny_toks (ha pins s σ H _ h0 I h)) (fun u s1 q => ?_) fun _ _ z => z.2)
  obtain ⟨hk, x, H1, I1, r1, q1⟩ := q
  exact thn (hr pos pins s1 σ H1 _ (Nat.le_trans h0 hk) I1 q1) fun us s2 ⟨xs, H2, I2, r2, q2⟩ => ⟨x :: xs, H2, I2, .cons r1 r2, q2⟩
theorem pa_bump {op : Operator} {r : R2} {x : Str} {j : Nat} {p pos0 : Pos} (ho : OpR X (binaryOp op) r) (ha : PE X a ta) (hr : PAT X es t)
    (hs : starEach (.BinOp a op (.Constant (.str x) j p) pos0 :: es) X.env = (false, eval (.BinOp a op (.Constant (.str x) j p) pos0) X.env) :: starEach es X.env := by rfl) :
    PA X (.BinOp a op (.Constant (.str x) j p) pos0 :: es) (tCons (tOp r ta (tC (.str x))) t) := by
  refine ⟨fun pos pins s σ H Q I h => ?_⟩
  rw [hs]
  show wpAny _ _ (spliced ((false, eval (.BinOp a op (.Constant (.str x) j p) pos0) X.env) :: backTo pos (starEach es X.env))) _ _ s
  refine Calls.spliced_cons (wpAny_BinOp (thn (ha.run pins s σ H _ I h) fun v s1 ⟨y, H1, I1, r1, q1⟩ => ?_))
  refine Calls.Constant_str ?_
  have J : Inv X pins σ H1 { s1 with toks := s1.toks + 1 } := I1.tok _
  refine wpAny_mono (PySem.wpAny_toks (ho pins _ σ H1 y (.str x) v (.str x s1.toks) _ J r1 ⟨_, rfl⟩ q1)) (fun u s2 q => ?_) fun _ _ z => z.2
  obtain ⟨hk, z, H2, I2, r2, q2⟩ := q
  refine thn (hr pos pins s2 σ H2 _ ?_ I2 q2) fun us s3 ⟨xs, H3, I3, r3, q3⟩ => ⟨z :: xs, H3, I3, .cons r2 r3, q3⟩
  have : 1 ≤ s1.toks + 1 := by omega
  exact Nat.le_trans this hk
end
end DL

set_option linter.all false
set_option maxRecDepth 100000
set_option maxHeartbeats 4000000
/-! LM: the laws' drawing, as functions. -/
namespace LM
open PySem PySem.Spec PyProof.Rows L2 DL TL TX
def mixedI (c k : Int) : Int :=
  let n1 := (c.fmod 2147483647 * 48271 + k * 69621 + 1048583).fmod 2147483629
  let n2 := (n1 * n1).fmod 2147483587
  (n2 * (n2 + 2)).fmod 2147483579
theorem fmod_lt {a b : Int} (h : 0 < b) : 0 ≤ a.fmod b ∧ a.fmod b < b := by
  rw [Int.fmod_eq_emod_of_nonneg _ (Int.le_of_lt h)]
  exact ⟨Int.emod_nonneg _ (by omega), Int.emod_lt_of_pos _ h⟩
theorem mixed_lt (c k : Int) : 0 ≤ mixedI c k ∧ mixedI c k < 2147483579 := fmod_lt (by decide)
theorem cmw {i j : Int} (a b : Nat) (h1 : i.natAbs < 2 ^ a) (h2 : j.natAbs < 2 ^ b) (ha : 0 < a := by decide) (hb : 0 < b := by decide) (h : a + b ≤ 1000000 := by decide) : CMulW i j := wide_mul h1 h2 ha hb h
def bigM : Int := (10 : Int) ^ (60 : Int).toNat * (10 : Int) ^ (60 : Int).toNat * (10 : Int) ^ (60 : Int).toNat * (10 : Int) ^ (60 : Int).toNat
/-- the number at a place of the script, 0 beyond -/
def cellAt (ns : List Int) (k : Int) : Int := if k < (ns.length : Int) then ns.getD k.toNat 0 else 0
def foundI (c k : Int) (n : Nat) : Int := (List.range n).foldl (fun (f : Int) (j : Nat) => f * 2147483579 + mixedI c (7 * k + 100 * (0 + (j : Int)) + (0 + (j : Int)) * (0 + (j : Int)))) 0
theorem found_succ (c k : Int) (n : Nat) : foundI c k (n + 1) = foundI c k n * 2147483579 + mixedI c (7 * k + 100 * (0 + (n : Int)) + (0 + (n : Int)) * (0 + (n : Int))) := by
  unfold foundI
  rw [List.range_succ, List.foldl_append]
  rfl
theorem found_lt (c k : Int) : ∀ n : Nat, 0 ≤ foundI c k n ∧ foundI c k n < ((2 ^ (31 * n) : Nat) : Int)
  | 0 => by
    show (0 : Int) ≤ 0 ∧ (0 : Int) < ((2 ^ (31 * 0) : Nat) : Int)
    decide
  | n + 1 => by
    have ih := found_lt c k n
    have hm := mixed_lt c (7 * k + 100 * (0 + (n : Int)) + (0 + (n : Int)) * (0 + (n : Int)))
    have e : 2 ^ (31 * (n + 1)) = 2 ^ (31 * n) * 2147483648 := by rw [Nat.mul_add, Nat.pow_add]
    rw [found_succ, e]
    generalize 2 ^ (31 * n) = P at ih
    omega
theorem found_nat (c k : Int) (n : Nat) (h : n ≤ 24) : (foundI c k n).natAbs < 2 ^ 744 := by
  have ih := found_lt c k n
  have h1 : 2 ^ (31 * n) ≤ 2 ^ 744 := Nat.pow_le_pow_right (by decide) (by omega)
  generalize 2 ^ (31 * n) = P at ih h1
  generalize 2 ^ 744 = R at h1
  omega
def cellF (ns : List Int) (k : Int) : Int :=
  let c := cellAt ns k
  if 10 ^ (18 : Int).toNat ≤ c then (c - 10 ^ (18 : Int).toNat).fmod bigM else foundI c k 24
/-! ### draws -/
def letterS : Str := "abcdefghijklmnopqrstuvwxyz"
def letterC (n : Int) : Nat := letterS.cps.toList.getD (n.fmod 26).toNat 0
def letF (_ : Dt) (n : Int) : Str × Int := (⟨#[letterC n]⟩, n.fdiv 26)
def threeS (i : Int) : Str := (["a", "b", "ab"] : List Str).getD i.toNat ""
def partF (n : Int) : Str × Int :=
  if n.fmod 5 < 3 then (threeS (n.fmod 5), n.fdiv 5)
  else
    let r := drawL letF (rngD 0 (1 + (n.fdiv 5).fmod 8).toNat) ((n.fdiv 5).fdiv 8)
    (Txt.join "" r.1, r.2)
def dotS : Str := "."
theorem tl_dot : tl dotS = [46] := by decide +kernel
/-- the parts of a drawn name -/
def partsF (most n : Int) : List Str × Int := drawL (fun _ m => partF m) (rngD 0 (1 + n.fmod most).toNat) (n.fdiv most)
def nameF (most n : Int) : Str × Int := (Txt.join dotS (partsF most n).1, (partsF most n).2)
theorem drawL_map {α β γ : Type} (f : α → Int → β × Int) (g : α → Int → γ × Int) (h : γ → β) (e : ∀ x n, f x n = (h (g x n).1, (g x n).2)) : ∀ (l : List α) (n : Int), drawL f l n = ((drawL g l n).1.map h, (drawL g l n).2)
  | [], n => rfl
  | x :: r, n => by
    rw [drawL, drawL, drawL_map f g h e r]
    rw [e x n]
    rfl
/-! ### what the draws give -/
def smallS : Str := "abcdefghijklmnopqrstuvwxyz"
def partS (z : Str) : Bool := (decide ((1 : Int) ≤ (z.length : Int)) && decide ((z.length : Int) ≤ 8)) && z.cps.toList.all fun c => decide (c ∈ smallS.cps.toList)
theorem letters : letterS.cps.toList = (List.range 26).map (· + 97) := by decide +kernel
theorem letter_in (n : Int) : letterC n ∈ smallS.cps.toList := by
  have h := fmod_lt (a := n) (b := 26) (by decide)
  have hl : letterS.cps.toList.length = 26 := by decide +kernel
  unfold letterC
  rw [List.getD_eq_getElem?_getD, List.getElem?_eq_getElem (by omega)]
  exact List.getElem_mem _
theorem letter_at (n : Int) : atI letterS.cps.toList (n.fmod 26) = some (letterC n) := by
  have h := fmod_lt (a := n) (b := 26) (by decide)
  have hl : letterS.cps.toList.length = 26 := by decide +kernel
  have e : ((n.fmod 26).toNat : Int) = n.fmod 26 := by omega
  have := atI_nat (xs := letterS.cps.toList) (j := (n.fmod 26).toNat) (v := letterC n) (by
    unfold letterC
    rw [List.getD_eq_getElem?_getD, List.getElem?_eq_getElem (by omega)]
    rfl)
  rwa [e] at this
theorem join_empty : ∀ ys : List Str, tl (Txt.join "" ys) = (ys.map tl).flatten
  | ys => by
    rw [tl_joinT]
    have : tl ("" : Str) = [] := by decide +kernel
    rw [this]
    generalize ys.map tl = l
    induction l with
    | nil => rfl
    | cons p r ih =>
      cases r with
      | nil => simp [joinL]
      | cons q r =>
        show p ++ ([] ++ joinL [] (q :: r)) = _
        rw [ih, List.nil_append]
        rfl
theorem part_ok (n : Int) : partS (partF n).1 = true := by
  unfold partF
  split
  · have h := fmod_lt (a := n) (b := 5) (by decide)
    have : n.fmod 5 = 0 ∨ n.fmod 5 = 1 ∨ n.fmod 5 = 2 := by omega
    show partS (threeS (n.fmod 5)) = true
    rcases this with e | e | e <;> rw [e] <;> decide +kernel
  · show partS (Txt.join "" (drawL letF (rngD 0 (1 + (n.fdiv 5).fmod 8).toNat) ((n.fdiv 5).fdiv 8)).1) = true
    have h8 := fmod_lt (a := n.fdiv 5) (b := 8) (by decide)
    generalize hr : drawL letF (rngD 0 (1 + (n.fdiv 5).fmod 8).toNat) ((n.fdiv 5).fdiv 8) = r
    have hlen : r.1.length = (1 + (n.fdiv 5).fmod 8).toNat := by
      rw [← hr, drawL_len]
      simp [rngD]
    have hall : ∀ y ∈ r.1, ∃ c, c ∈ smallS.cps.toList ∧ y = ⟨#[c]⟩ := by
      rw [← hr]
      exact drawL_all (fun x m => ⟨letterC m, letter_in m, rfl⟩) _ _
    have hj := join_empty r.1
    have key : ∀ l : List Str, (∀ y ∈ l, ∃ c, c ∈ smallS.cps.toList ∧ y = ⟨#[c]⟩) → ((l.map tl).flatten).length = l.length ∧ ∀ c ∈ (l.map tl).flatten, c ∈ smallS.cps.toList := by
      intro l
      induction l with
      | nil => intro _; exact ⟨rfl, fun c h => nomatch h⟩
      | cons y l ih =>
        intro h
        obtain ⟨c, hc, rfl⟩ := h y (List.mem_cons_self ..)
        obtain ⟨i1, i2⟩ := ih fun z hz => h z (List.mem_cons_of_mem _ hz)
        refine ⟨?_, fun d hd => ?_⟩
        · show ([c] ++ (l.map tl).flatten).length = _
          rw [List.length_append, i1]
          simp
          omega
        · have hd' : d ∈ [c] ++ (l.map tl).flatten := hd
          rcases List.mem_append.mp hd' with h | h
          · rw [List.mem_singleton.mp h]
            exact hc
          · exact i2 d h
    obtain ⟨k1, k2⟩ := key r.1 hall
    unfold partS
    rw [show (Txt.join "" r.1).cps.toList = (r.1.map tl).flatten from hj, len_tl, hj, k1, hlen, Bool.and_eq_true, Bool.and_eq_true]
    refine ⟨⟨decide_eq_true (by omega), decide_eq_true (by omega)⟩, List.all_eq_true.mpr fun c hc => decide_eq_true (k2 c hc)⟩
theorem partS_len {z : Str} (h : partS z = true) : 1 ≤ z.length ∧ z.length ≤ 8 := by
  unfold partS at h
  simp only [Bool.and_eq_true, decide_eq_true_eq] at h
  omega
theorem partS_free {z : Str} {c : Nat} (hc : c ∉ smallS.cps.toList) (h : partS z = true) : c ∉ tl z := by
  unfold partS at h
  simp only [Bool.and_eq_true, decide_eq_true_eq, List.all_eq_true] at h
  exact fun hm => hc (h.2 c hm)
theorem partS_nodot {z : Str} (h : partS z = true) : 46 ∉ tl z := partS_free (by decide +kernel) h
theorem parts_len (most n : Int) (h : 0 < most) : 1 ≤ (partsF most n).1.length ∧ ((partsF most n).1.length : Int) ≤ most := by
  have hm := fmod_lt (a := n) h
  unfold partsF
  rw [drawL_len]
  simp [rngD]
  omega
theorem parts_all (most n : Int) : ∀ y ∈ (partsF most n).1, partS y = true := drawL_all (fun _ m => part_ok m) _ _
theorem sum_le {l : List Str} (h : ∀ y ∈ l, partS y = true) : (l.map (·.length)).sum ≤ 8 * l.length := by
  induction l with
  | nil => simp
  | cons y l ih =>
    have h1 := (partS_len (h y (List.mem_cons_self ..))).2
    have h2 := ih fun z hz => h z (List.mem_cons_of_mem _ hz)
    simp only [List.map_cons, List.sum_cons, List.length_cons]
    omega
theorem join_len {l : List Str} (h : ∀ y ∈ l, partS y = true) : (Txt.join dotS l).length ≤ 9 * l.length := by
  rw [len_tl, tl_joinT, tl_dot]
  have h1 := joinL_len 46 (l.map tl)
  have h2 := sum_le h
  rw [List.map_map, List.length_map] at h1
  have : (List.length ∘ tl) = fun (s : Str) => s.length := by
    funext s
    exact (len_tl s).symm
  rw [this] at h1
  omega
theorem split_join {l : List Str} (h : ∀ y ∈ l, partS y = true) (hn : l ≠ []) : Txt.split (Txt.join dotS l) dotS = l := by
  apply map_tl_inj
  rw [split_one tl_dot (by decide), List.map_map, tl_joinT, tl_dot]
  have : (tl ∘ mk) = id := rfl
  rw [this, List.map_id]
  refine splitN_join (by simpa using hn) fun p hp => ?_
  obtain ⟨y, hy, rfl⟩ := List.mem_map.mp hp
  exact partS_nodot (h y hy)
/-! ### the program's names, as functions -/
def isPartD : Dt → Bool
  | .str z => partS z
  | _ => false
def nameS (z : Str) : Bool := decide (((Txt.split z dotS).length : Int) ≤ 4) && (Txt.split z dotS).all partS
def isNameD : Dt → Bool
  | .str z => nameS z
  | _ => false
def elderD (z : Str) : Dt := if (Txt.rpartition z dotS).1 = Str.empty then .non else .str (Txt.rpartition z dotS).1
def lastS (z : Str) : Str := (Txt.rpartition z dotS).2.2
def eldersS (z : Str) : List Str := (List.range (Txt.split z dotS).length).map fun i => Txt.join dotS ((Txt.split z dotS).take (i + 1))
def eldersL (l : List Str) : List Str := (List.range l.length).map fun i => Txt.join dotS (l.take (i + 1))
theorem elders_join {l : List Str} (h : ∀ y ∈ l, partS y = true) (hn : l ≠ []) : eldersS (Txt.join dotS l) = eldersL l := by
  unfold eldersS eldersL
  rw [split_join h hn]
theorem joinL_snoc (c : Nat) : ∀ (l : List (List Nat)) (x : List Nat), l ≠ [] → joinL [c] (l ++ [x]) = joinL [c] l ++ c :: x
  | [], _, h => absurd rfl h
  | [p], x, _ => rfl
  | p :: q :: r, x, _ => by
    have ih := joinL_snoc c (q :: r) x (by simp)
    show p ++ ([c] ++ joinL [c] ((q :: r) ++ [x])) = (p ++ ([c] ++ joinL [c] (q :: r))) ++ c :: x
    rw [ih]
    simp
theorem join_one (x : Str) : Txt.join dotS [x] = x := by
  apply ext_tl
  rw [tl_joinT]
  rfl
theorem elder_one {x : Str} (h : partS x = true) : elderD (Txt.join dotS [x]) = .non := by
  rw [join_one]
  unfold elderD
  rw [rpart_none tl_dot (partS_nodot h), if_pos rfl]
theorem last_one {x : Str} (h : partS x = true) : lastS (Txt.join dotS [x]) = x := by
  rw [join_one]
  unfold lastS
  rw [rpart_none tl_dot (partS_nodot h)]
theorem join_ne {l : List Str} (h : ∀ y ∈ l, partS y = true) (hn : l ≠ []) : ¬ Txt.join dotS l = Str.empty := by
  intro e
  have e2 : tl (Txt.join dotS l) = [] := by rw [e]; rfl
  rw [tl_joinT, tl_dot] at e2
  cases l with
  | nil => exact hn rfl
  | cons x r =>
    have hx := (partS_len (h x (List.mem_cons_self ..))).1
    rw [len_tl] at hx
    cases r with
    | nil =>
      have : tl x = [] := e2
      rw [this] at hx
      exact absurd hx (by decide)
    | cons y r =>
      have : tl x ++ ([46] ++ joinL [46] ((y :: r).map tl)) = [] := e2
      simp at this
theorem rpart_snoc {l : List Str} {x : Str} (h : partS x = true) (hn : l ≠ []) : Txt.rpartition (Txt.join dotS (l ++ [x])) dotS = (Txt.join dotS l, dotS, x) := by
  have e : tl (Txt.join dotS (l ++ [x])) = tl (Txt.join dotS l) ++ 46 :: tl x := by
    rw [tl_joinT, tl_joinT, tl_dot, List.map_append]
    exact joinL_snoc 46 _ _ (by simpa using hn)
  rw [rpart_some tl_dot e (partS_nodot h), mk_tl', mk_tl']
theorem elder_snoc {l : List Str} {x : Str} (hl : ∀ y ∈ l, partS y = true) (h : partS x = true) (hn : l ≠ []) : elderD (Txt.join dotS (l ++ [x])) = .str (Txt.join dotS l) := by
  unfold elderD
  rw [rpart_snoc h hn, if_neg (join_ne hl hn)]
theorem last_snoc {l : List Str} {x : Str} (h : partS x = true) (hn : l ≠ []) : lastS (Txt.join dotS (l ++ [x])) = x := by
  unfold lastS
  rw [rpart_snoc h hn]
/-- the elder as a list of names tells it -/
theorem elder_at {l : List Str} (h : ∀ y ∈ l, partS y = true) (hn : l ≠ []) : atI (Dt.non :: strsD (eldersL l)) (((strsD (eldersL l)).length : Int) - 1) = some (elderD (Txt.join dotS l)) := by
  have hlen : (strsD (eldersL l)).length = l.length := by
    unfold strsD eldersL
    simp
  rw [hlen]
  have hl1 : 1 ≤ l.length := List.length_pos_iff.mpr hn
  have e : ((l.length - 1 : Nat) : Int) = (l.length : Int) - 1 := by omega
  rw [← e]
  refine atI_nat ?_
  rcases List.eq_nil_or_concat l with z | ⟨i, x, z⟩
  · exact absurd z hn
  · rw [List.concat_eq_append] at z
    subst z
    have hx : partS x = true := h x (by simp)
    have hi : ∀ y ∈ i, partS y = true := fun y hy => h y (by simp [hy])
    rw [List.length_append, List.length_singleton, Nat.add_sub_cancel]
    cases i with
    | nil =>
      rw [List.nil_append, elder_one hx]
      rfl
    | cons a r =>
      rw [elder_snoc hi hx (by simp)]
      show (strsD (eldersL ((a :: r) ++ [x])))[r.length]? = _
      unfold strsD eldersL
      rw [List.map_map, List.getElem?_map, List.getElem?_range (by simp; omega)]
      simp [List.take_append]
theorem last_at {l : List Str} (h : ∀ y ∈ l, partS y = true) (hn : l ≠ []) : atI (strsD l) (-1) = some (.str (lastS (Txt.join dotS l))) := by
  rcases List.eq_nil_or_concat l with z | ⟨i, x, z⟩
  · exact absurd z hn
  · rw [List.concat_eq_append] at z
    subst z
    have hx : partS x = true := h x (by simp)
    have e : lastS (Txt.join dotS (i ++ [x])) = x := by
      cases i with
      | nil => exact last_one hx
      | cons a r => exact last_snoc hx (by simp)
    rw [e]
    unfold strsD
    rw [List.map_append]
    exact atI_last _ _
end LM

set_option linter.all false
set_option maxRecDepth 100000
set_option maxHeartbeats 4000000
namespace K01
open PySem PySem.Spec PyProof.Rows L2 DL TL TX LM
def topS (i : Nat) : Stmt := PySem.Challenge.pw_loadhall_k01_parts_and_names.main.body.getD i (.Pass ⟨0, 0, 0, 0⟩)
abbrev s_is_part : Stmt := topS 4
theorem sc_is_part : FnScope ["thing", "sign"] ["thing"] (defScope s_is_part) := ⟨rfl, rfl, rfl, by decide +kernel, rfl, by decide +kernel, by decide +kernel⟩
abbrev s_is_name : Stmt := topS 5
theorem sc_is_name : FnScope ["thing", "parts", "part"] ["thing"] (defScope s_is_name) := ⟨rfl, rfl, rfl, by decide +kernel, rfl, by decide +kernel, by decide +kernel⟩
abbrev s_elder_of : Stmt := topS 6
theorem sc_elder_of : FnScope ["name", "elder"] ["name"] (defScope s_elder_of) := ⟨rfl, rfl, rfl, by decide +kernel, rfl, by decide +kernel, by decide +kernel⟩
abbrev s_last_of : Stmt := topS 7
theorem sc_last_of : FnScope ["name"] ["name"] (defScope s_last_of) := ⟨rfl, rfl, rfl, by decide +kernel, rfl, by decide +kernel, by decide +kernel⟩
abbrev s_elders : Stmt := topS 8
theorem sc_elders : FnScope ["name", "parts", "many"] ["name"] (defScope s_elders) := ⟨rfl, rfl, rfl, by decide +kernel, rfl, by decide +kernel, by decide +kernel⟩
abbrev s_law_mixed : Stmt := topS 10
theorem sc_law_mixed : FnScope ["_law_cell_here", "_law_k", "_law_number"] ["_law_cell_here", "_law_k"] (defScope s_law_mixed) := ⟨rfl, rfl, rfl, by decide +kernel, rfl, by decide +kernel, by decide +kernel⟩
abbrev s_law_cell : Stmt := topS 11
theorem sc_law_cell : FnScope ["_law_script", "_law_k", "_law_cell_here", "_law_found", "_law_j"] ["_law_script", "_law_k"] (defScope s_law_cell) := ⟨rfl, rfl, rfl, by decide +kernel, rfl, by decide +kernel, by decide +kernel⟩
abbrev s_law_take : Stmt := topS 12
theorem sc_law_take : FnScope ["_law_pile", "_law_size", "_law_digit"] ["_law_pile", "_law_size"] (defScope s_law_take) := ⟨rfl, rfl, rfl, by decide +kernel, rfl, by decide +kernel, by decide +kernel⟩
abbrev s_law_part_drawn : Stmt := topS 13
theorem sc_law_part_drawn : FnScope ["_law_pile", "_law_way", "_law_many", "_law_k"] ["_law_pile"] (defScope s_law_part_drawn) := ⟨rfl, rfl, rfl, by decide +kernel, rfl, by decide +kernel, by decide +kernel⟩
abbrev s_law_name_drawn : Stmt := topS 14
theorem sc_law_name_drawn : FnScope ["_law_pile", "_law_most", "_law_k"] ["_law_pile", "_law_most"] (defScope s_law_name_drawn) := ⟨rfl, rfl, rfl, by decide +kernel, rfl, by decide +kernel, by decide +kernel⟩
abbrev s_law_is_part : Stmt := topS 15
theorem sc_law_is_part : FnScope ["_law_thing_told", "_law_sign"] ["_law_thing_told"] (defScope s_law_is_part) := ⟨rfl, rfl, rfl, by decide +kernel, rfl, by decide +kernel, by decide +kernel⟩
abbrev s_law_is_name : Stmt := topS 16
theorem sc_law_is_name : FnScope ["_law_thing_told", "_law_part"] ["_law_thing_told"] (defScope s_law_is_name) := ⟨rfl, rfl, rfl, by decide +kernel, rfl, by decide +kernel, by decide +kernel⟩
abbrev s_law_truths_good : Stmt := topS 17
theorem sc_law_truths_good : FnScope ["_law_thing_told", "_law_found", "_law_truth"] ["_law_thing_told"] (defScope s_law_truths_good) := ⟨rfl, rfl, rfl, by decide +kernel, rfl, by decide +kernel, by decide +kernel⟩
abbrev s_law_parts_good : Stmt := topS 18
theorem sc_law_parts_good : FnScope ["_law_name_told", "_law_parts", "_law_due", "_law_turn", "_law_found", "_law_elder", "_law_many"] ["_law_name_told"] (defScope s_law_parts_good) := ⟨rfl, rfl, rfl, by decide +kernel, rfl, by decide +kernel, by decide +kernel⟩
abbrev s_law_bent : Stmt := topS 19
theorem sc_law_bent : FnScope ["_law_pile", "_law_name_told", "_law_at", "_law_sign", "_law_left", "_law_some"] ["_law_pile", "_law_name_told"] (defScope s_law_bent) := ⟨rfl, rfl, rfl, by decide +kernel, rfl, by decide +kernel, by decide +kernel⟩
abbrev s_law : Stmt := topS 20
theorem sc_law : FnScope ["_law_script", "_law_odds", "_law_odd", "_law_k", "_law_pile", "_law_name_told", "_law_one"] ["_law_script"] (defScope s_law) := ⟨rfl, rfl, rfl, by decide +kernel, rfl, by decide +kernel, by decide +kernel⟩
structure Glb (mg : Str → Option Value) : Prop where
  z_isinstance : mg "isinstance" = none
  z_str : mg "str" = none
  z_bool : mg "bool" = none
  z_list : mg "list" = none
  z_len : mg "len" = none
  z_all : mg "all" = none
  z_range : mg "range" = none
  c_SMALL : GC mg "SMALL" (.str "abcdefghijklmnopqrstuvwxyz")
  c_LONGEST : GC mg "LONGEST" (.int 8)
  c_MOST_PARTS : GC mg "MOST_PARTS" (.int 4)
section
variable {P : Program} {w : World} {K : PySem.W.Frag} {mg : Str → Option Value} {base : Heap}
theorem ok_is_part {f : Addr} {fd : FuncData} (F : Fun K "is_part" "is_part" s_is_part f fd) (T : Glb mg) : FnOk P w K mg base CX0 1 f fd ["thing"] (PF K dom1 (fun ds => .bl (isPartD (hd0 ds)))) := by
  refine ok_pf F sc_is_part dom1_len (fun cdv A outer s H E hr => ?_)
  have hu := hr.units
  have nd := sc_is_part.nd
  refine ⟨_, (pss_one (ps_ret (pe_and (pe_callB (k_isi (K := K) rfl) (by rfl) T.z_isinstance (by decide +kernel) (pa_cons (pv 0) (pa_cons (pe_bltn (v := .ty "str") (by rfl) T.z_str (by decide +kernel) rfl) pa_nil))) (pe_and (pe_chain op_le op_le pe_int (pe_callB (k_len (K := K) rfl) (by rfl) T.z_len (by decide +kernel) (pa_cons (pv 0) pa_nil)) (pe_gc T.c_LONGEST (by rfl))) (pe_one (pe_callB (k_all (K := K) rfl rfl) (by rfl) T.z_all (by decide +kernel) (pa_cons (pe_lc (own := [("sign", 1)]) (g := gName 1) rfl nd (pi_str (pv 0)) (blkOk_by (N := ["thing", "sign"]) (sc := defScope s_is_part) (own := [("sign", 1)]) (by decide +kernel)) (fun _ _ _ _ _ => (pg_name (i := 1) nd rfl (Or.inl rfl))) (fun _ _ _ _ _ => pts_nil) (fun _ _ _ _ _ => by exact (pe_cmpR uop_inSg (pv 1) (pe_gc T.c_SMALL (by rfl)) (by rfl)))) pa_nil))))))), ?_⟩
  rintro B vs _ Q e r ⟨d, rfl, ho, hs⟩ q
  obtain ⟨v, rfl, rv⟩ := r.one
  refine x_ret (d := .bl (isPartD d)) ?_ e q
  have hv : ED K (tVar 0) (L2.start ["thing", "sign"] [v]) B d := ed_var rfl rv
  cases d with
  | str z =>
    have hs' : z.length ≤ 100000 := hs
    refine ed_is (ed_andV (k := true) (ed_cb (ea_cons hv (ea_cons (ed_c (.ty _)) ea_nil)) (rc_isi_str ho)) fun _ =>
      ed_andV (ed_chain (ed_c (.int 1)) (ed_cb (ea_cons hv ea_nil) (rc_lenS (by omega))) (rd_cmp _ _) (fun _ => ed_c (.int 8)) (fun _ => rd_cmp _ _)) fun hk =>
      ed_cb (ea_cons (ed_is (ed_map (fun c => match c with | .str x => .bl (decide (x.cps.getD 0 0 ∈ smallS.cps.toList)) | _ => .non) (es_str hv) (by rw [signs_len]; omega) (fun _ => rfl) (fun d hd v' B' e' r' => ?_)) ?_) ea_nil) (rc_all (bs := z.cps.toList.map fun c => decide (c ∈ smallS.cps.toList)))) ?_
    · unfold signsD at hd
      obtain ⟨c, hc, rfl⟩ := List.mem_map.mp hd
      exact ed_op (ed_var rfl r') (ed_c (.str _)) (rd_inSg _ _)
    · simp [signsD, Function.comp_def]
    · simp [isPartD, partS, all_map_bl]
  | loc a => cases ho
  | ty a => cases ho
  | _ => exact ed_is (ed_andV (k := false) (ed_cb (ea_cons hv (ea_cons (ed_c (.ty _)) ea_nil)) (rc_isi_str ho)) (l := false) (fun h => nomatch h)) rfl
theorem ok_is_name {f : Addr} {fd : FuncData} (F : Fun K "is_name" "is_name" s_is_name f fd) (T : Glb mg) (D_is_part : DefK P w K mg base CX0 "is_part" s_is_part 1 ["thing"] (PF K dom1 (fun ds => .bl (isPartD (hd0 ds))))) :
    FnOk P w K mg base CX0 2 f fd ["thing"] (PF K dom1 (fun ds => .bl (isNameD (hd0 ds)))) := by
  refine ok_pf F sc_is_name dom1_len (fun cdv A outer s H E hr => ?_)
  have hu := hr.units
  have nd := sc_is_name.nd
  refine ⟨_, (pss_cons (ps_if (pt_not (pt_val (pe_callB (k_isi (K := K) rfl) (by rfl) T.z_isinstance (by decide +kernel) (pa_cons (pv 0) (pa_cons (pe_bltn (v := .ty "str") (by rfl) T.z_str (by decide +kernel) rfl) pa_nil))))) (pss_one (ps_ret pe_bl)) pss_nil)
      (pss_cons (ps_set (i := 1) nd rfl (Or.inl rfl) (k_bm (K := K) rfl PySem.F.plainAttrs_str PySem.F.slot_str_split PySem.F.type_str_split umt_split (pv 0) (pa_cons pe_str pa_nil)))
      (pss_one (ps_ret (pe_and (pe_cmpR op_le (pe_callB (k_len (K := K) rfl) (by rfl) T.z_len (by decide +kernel) (pa_cons (pv 1) pa_nil)) (pe_gc T.c_MOST_PARTS (by rfl)) (nomark _)) (pe_one (pe_callB (k_all (K := K) rfl rfl) (by rfl) T.z_all (by decide +kernel) (pa_cons (pe_lc (own := [("part", 2)]) (g := gName 2) rfl nd (k_pi_list (K := K) rfl (pv 1)) (blkOk_by (N := ["thing", "parts", "part"]) (sc := defScope s_is_name) (own := [("part", 2)]) (by decide +kernel)) (fun _ _ _ _ _ => (pg_name (i := 2) nd rfl (Or.inl rfl))) (fun _ _ _ _ _ => pts_nil) (fun _ _ _ _ _ => by exact (pe_def D_is_part (hr.mono (by decide)) (by rfl) (pa_cons (pv 2) pa_nil)))) pa_nil)))))))), ?_⟩
  rintro B vs _ Q e r ⟨d, rfl, ho, hs⟩ q
  obtain ⟨v, rfl, rv⟩ := r.one
  have hv : ED K (tVar 0) (L2.start ["thing", "parts", "part"] [v]) B d := ed_var rfl rv
  refine x_when (et_not (et_B (ed_cb (ea_cons hv (ea_cons (ed_c (.ty _)) ea_nil)) (rc_isi_str ho)))) e (fun hk B2 H2 p2 => ?_) (fun hk B2 H2 p2 => ?_)
  · refine x_ret (K := K) (ed_c (.bl false)) p2.x fun v B3 H3 p3 r3 => q v B3 H3 (p2.trans p3) ?_
    have : isNameD d = false := by cases d <;> first | rfl | cases hk
    show Rp K B3 v (.bl (isNameD d))
    rw [this]
    exact r3
  · cases d with
    | str z =>
      have hs' : z.length ≤ 100000 := hs
      have hm := split_many (x := z) tl_dot (by decide)
      refine x_asg (ed_split (hv.mono p2.b) (ea_cons (ed_c (.str dotS)) ea_nil) (by decide +kernel) (by omega)) p2.x fun v3 B3 H3 p3 r3 => ?_
      refine x_ret (d := .bl (isNameD (.str z))) ?_ p3.x fun v B4 H4 p4 r4 => q v B4 H4 ((p2.trans p3).trans p4) r4
      have h1 : ED K (tVar 1) ((L2.start ["thing", "parts", "part"] [v]).set 1 (some v3)) B3 (.lst (strsD (Txt.split z dotS))) := ed_var rfl r3
      refine ed_is (ed_andV (ed_op (ed_cb (ea_cons h1 ea_nil) rc_lenL) (ed_c (.int 4)) (rd_cmp _ _)) fun hk =>
        ed_cb (ea_cons (ed_is (ed_map (fun c => .bl (isPartD c)) (es_list h1) (by simp [strsD]; omega) (fun _ => rfl) (fun d hd v' B' e' r' => ?_)) ?_) ea_nil) (rc_all (bs := (Txt.split z dotS).map partS))) ?_
      · unfold strsD at hd
        obtain ⟨c, hc, rfl⟩ := List.mem_map.mp hd
        exact ed_call1 (ea_cons (ed_var rfl r') ea_nil) ⟨_, rfl, rfl, Nat.le_trans (split_len tl_dot (by decide) hc) hs'⟩
      · simp [strsD, Function.comp_def, isPartD]
      · simp [isNameD, nameS, all_map_bl, strsD]
    | _ => cases hk
theorem ok_elder_of {f : Addr} {fd : FuncData} (F : Fun K "elder_of" "elder_of" s_elder_of f fd) (T : Glb mg) : FnOk P w K mg base CX0 1 f fd ["name"] (PF K domS (fun ds => elderD (txt (hd0 ds)))) := by
  refine ok_pf F sc_elder_of domS_len (fun cdv A outer s H E hr => ?_)
  have hu := hr.units
  have nd := sc_elder_of.nd
  refine ⟨_, (pss_cons (ps_set (i := 1) nd rfl (Or.inl rfl) (pe_ix (k_ix (K := K) rfl) (k_bm (K := K) rfl PySem.F.plainAttrs_str PySem.F.slot_str_rpartition PySem.F.type_str_rpartition umt_rpartition (pv 0) (pa_cons pe_str pa_nil)) pe_int (fun _ _ => rfl)))
      (pss_cons (ps_if (pt_cmpR (k_eq (K := K) rfl hu) (pv 1) pe_str (nomark _)) (pss_one (ps_ret pe_non)) pss_nil)
      (pss_one (ps_ret (pv 1))))), ?_⟩
  rintro B vs _ Q e r ⟨z, rfl, hs⟩ q
  obtain ⟨v, rfl, rv⟩ := r.one
  have hv : ED K (tVar 0) (L2.start ["name", "elder"] [v]) B (.str z) := ed_var rfl rv
  refine x_asg (ed_op (ed_bm hv rfl (ea_cons (ed_c (.str dotS)) ea_nil) (rm_rpartition (by decide +kernel) (by omega))) (ed_c (.int 0)) (rd_ixT rfl)) e fun v2 B2 H2 p2 r2 => ?_
  refine x_when (et_test (ed_op (ed_var (i := 1) rfl r2) (ed_c (.str _)) (rd_eq rfl rfl))) p2.x (fun hk B3 H3 p3 => ?_) (fun hk B3 H3 p3 => ?_)
  · refine x_ret (K := K) (ed_c .non) p3.x fun v B4 H4 p4 r4 => q v B4 H4 ((p2.trans p3).trans p4) ?_
    have hz : (Txt.rpartition z dotS).1 = Str.empty := by
      have := hk
      simp only [eqD, toP, PyData.eqv, beq_iff_eq] at this
      exact this
    show Rp K B4 v (elderD z)
    unfold elderD
    rw [if_pos hz]
    exact r4
  · refine x_ret (ed_var (i := 1) rfl (r2.mono p3.b)) p3.x fun v B4 H4 p4 r4 => q v B4 H4 ((p2.trans p3).trans p4) ?_
    have hz : ¬ (Txt.rpartition z dotS).1 = Str.empty := by
      have := hk
      simp only [eqD, toP, PyData.eqv, beq_eq_false_iff_ne] at this
      exact this
    show Rp K B4 v (elderD z)
    unfold elderD
    rw [if_neg hz]
    exact r4
theorem ok_last_of {f : Addr} {fd : FuncData} (F : Fun K "last_of" "last_of" s_last_of f fd) (T : Glb mg) : FnOk P w K mg base CX0 1 f fd ["name"] (PF K domS (fun ds => .str (lastS (txt (hd0 ds))))) := by
  refine ok_pf F sc_last_of domS_len (fun cdv A outer s H E hr => ?_)
  have hu := hr.units
  have nd := sc_last_of.nd
  refine ⟨_, (pss_one (ps_ret (pe_ix (k_ix (K := K) rfl) (k_bm (K := K) rfl PySem.F.plainAttrs_str PySem.F.slot_str_rpartition PySem.F.type_str_rpartition umt_rpartition (pv 0) (pa_cons pe_str pa_nil)) pe_int (fun _ _ => rfl)))), ?_⟩
  rintro B vs _ Q e r ⟨z, rfl, hs⟩ q
  obtain ⟨v, rfl, rv⟩ := r.one
  have hv : ED K (tVar 0) (L2.start ["name"] [v]) B (.str z) := ed_var rfl rv
  exact x_ret (ed_op (ed_bm hv rfl (ea_cons (ed_c (.str dotS)) ea_nil) (rm_rpartition (by decide +kernel) (by omega))) (ed_c (.int 2)) (rd_ixT rfl)) e q
theorem ok_elders {f : Addr} {fd : FuncData} (F : Fun K "elders" "elders" s_elders f fd) (T : Glb mg) : FnOk P w K mg base CX0 1 f fd ["name"] (PL K domS (fun ds => strsD (eldersS (txt (hd0 ds))))) := by
  refine ok_pl F sc_elders domS_len (fun cdv A outer s H E hr => ?_)
  have hu := hr.units
  have nd := sc_elders.nd
  refine ⟨_, (pss_cons (ps_set (i := 1) nd rfl (Or.inr rfl) (k_bm (K := K) rfl PySem.F.plainAttrs_str PySem.F.slot_str_split PySem.F.type_str_split umt_split (pv 0) (pa_cons pe_str pa_nil)))
      (pss_one (ps_ret (pe_lc (own := [("many", 2)]) (g := gName 2) rfl nd (pi_range2 (by rfl) T.z_range (pa_cons pe_int (pa_cons (pe_op uop_add (pe_callB (k_len (K := K) rfl) (by rfl) T.z_len (by decide +kernel) (pa_cons (pv 1) pa_nil)) pe_int) pa_nil))) (blkOk_by (N := ["name", "parts", "many"]) (sc := defScope s_elders) (own := [("many", 2)]) (by decide +kernel)) (fun _ _ _ _ _ => (pg_name (i := 2) nd rfl (Or.inl rfl))) (fun _ _ _ _ _ => pts_nil) (fun _ _ _ _ _ => by exact (k_bm (K := K) rfl PySem.F.plainAttrs_str PySem.F.slot_str_join PySem.F.type_str_join (k_join (K := K) rfl) pe_str (pa_cons (pe_slice (k_sl (K := K) rfl) (pv 1) po_none (po_some (pv 2))) pa_nil))))))), ?_⟩
  rintro B vs _ Q e r ⟨z, rfl, hs⟩ q
  obtain ⟨v, rfl, rv⟩ := r.one
  have hv : ED K (tVar 0) (L2.start ["name", "parts", "many"] [v]) B (.str z) := ed_var rfl rv
  have hm := split_many (x := z) tl_dot (by decide)
  refine x_asg (ed_split hv (ea_cons (ed_c (.str dotS)) ea_nil) (by decide +kernel) (by omega)) e fun v3 B3 H3 p3 r3 => ?_
  have h1 : ED K (tVar 1) ((L2.start ["name", "parts", "many"] [v]).set 1 (some v3)) B3 (.lst (strsD (Txt.split z dotS))) := ed_var rfl r3
  have hl : ∀ i : Nat, ((strsD (Txt.split z dotS)).take i) = strsD ((Txt.split z dotS).take i) := fun i => by unfold strsD; rw [List.map_take]
  have hsum : ∀ i : Nat, (((Txt.split z dotS).take i).map (·.length)).sum ≤ z.length := fun i => sum_split tl_dot (by decide) z i
  refine x_retL (ds := strsD (eldersS z)) ?_ p3.x fun p xs B2 H2 p2 hn hb hp hr => q p xs B2 H2 (p3.trans p2) ((p3.hh e).free hn) hb hp hr
  have e3 : ∀ i : Nat, ((1 : Int) + (i : Int)) = ((i + 1 : Nat) : Int) := fun i => by omega
  refine (el_is (el_map (fun c => match c with | .int i => .str (Txt.join dotS ((Txt.split z dotS).take i.toNat)) | _ => .non)
    (es_rng2 (ea_cons (ed_c (.int 1)) (ea_cons (ed_op (ed_cb (ea_cons h1 ea_nil) rc_lenL) (ed_c (.int 1)) (rd_addI _ _)) ea_nil)) (by rw [strs_len]; omega)) (by simp [rngD, strs_len]; omega) (fun _ => rfl)
    (fun d hd v' B' e' r' => ?_)) ?_)
  · unfold rngD at hd
    obtain ⟨i, hi, rfl⟩ := List.mem_map.mp hd
    have h2 := hsum (i + 1)
    have h3 : ((Txt.split z dotS).take (i + 1)).length ≤ z.length + 1 := by
      rw [List.length_take]
      omega
    show ED K _ _ B' (.str (Txt.join dotS ((Txt.split z dotS).take ((1 : Int) + (i : Int)).toNat)))
    rw [e3] at r' ⊢
    rw [Int.toNat_natCast]
    refine ed_bm (ed_c (.str dotS)) rfl (ea_cons (ed_is (ed_slL (ed_var rfl (r3.mono e')) eo_none (eo_some (ed_var rfl r'))) (d := .lst (strsD ((Txt.split z dotS).take (i + 1)))) ?_) ea_nil) (rm_join ?_)
    · rw [cutD_take, hl]
    · have h4 : dotS.length = 1 := by decide +kernel
      rw [h4]
      omega
  · unfold eldersS strsD rngD
    rw [List.map_map, List.map_map, List.length_map]
    have : (((Txt.split z dotS).length : Int) + 1 - 1).toNat = (Txt.split z dotS).length := by omega
    rw [this]
    refine List.map_congr_left fun i _ => ?_
    show Dt.str (Txt.join dotS ((Txt.split z dotS).take ((1 : Int) + (i : Int)).toNat)) = _
    rw [e3, Int.toNat_natCast]
    rfl
end

/-! ### the law's drawing -/
section
variable {P : Program} {w : World} {K : PySem.W.Frag} {mg : Str → Option Value} {base : Heap}
/-- a cell and a place -/
def domCK (ds : List Dt) : Prop := ∃ c k : Int, ds = [.int c, .int k] ∧ 0 ≤ k ∧ k ≤ 10000
abbrev spMixed (K : PySem.W.Frag) : Sp := PF K domCK (fun ds => match ds with | [.int c, .int k] => .int (mixedI c k) | _ => .non)
theorem ok_mixed {f : Addr} {fd : FuncData} (F : Fun K "_law_mixed" "_law_mixed" s_law_mixed f fd) : FnOk P w K mg base CX0 1 f fd ["_law_cell_here", "_law_k"] (spMixed K) := by
  refine ok_pf F sc_law_mixed (fun ds ⟨c, k, h, _⟩ => by rw [h]; rfl) (fun cdv A outer s H E hr => ?_)
  have hu := hr.units
  have nd := sc_law_mixed.nd
  refine ⟨_, (pss_cons (ps_set (i := 2) nd rfl (Or.inl rfl) (pe_op op_modN (pe_op uop_add (pe_op uop_add (pe_op op_mulW (pe_op op_modN (pv 0) pe_int) pe_int) (pe_op op_mulW (pv 1) pe_int)) pe_int) pe_int))
      (pss_cons (ps_set (i := 2) nd rfl (Or.inl rfl) (pe_op op_modN (pe_op op_mulW (pv 2) (pv 2)) pe_int))
      (pss_one (ps_ret (pe_op op_modN (pe_op op_mulW (pv 2) (pe_op uop_add (pv 2) pe_int)) pe_int))))), ?_⟩
  rintro B vs _ Q e r ⟨c, k, rfl, h0, h1⟩ q
  obtain ⟨v, u, rfl, rv, ru⟩ := r.two
  have b1 := fmod_lt (a := c) (b := 2147483647) (by decide)
  refine x_asg (ed_op (ed_op (ed_op (ed_op (ed_op (ed_var rfl rv) (ed_c (.int _)) (rd_mod (by decide))) (ed_c (.int _)) (rd_mulI (cmw 64 64 (by omega) (by decide)))) (ed_op (ed_var rfl ru) (ed_c (.int _)) (rd_mulI (cmw 64 64 (by omega) (by decide)))) (rd_addI _ _)) (ed_c (.int _)) (rd_addI _ _)) (ed_c (.int _)) (rd_mod (by decide))) e fun v2 B2 H2 p2 r2 => ?_
  have b2 := fmod_lt (a := c.fmod 2147483647 * 48271 + k * 69621 + 1048583) (b := 2147483629) (by decide)
  refine x_asg (ed_op (ed_op (ed_var rfl r2) (ed_var rfl r2) (rd_mulI (cmw 64 64 (by omega) (by omega)))) (ed_c (.int _)) (rd_mod (by decide))) p2.x fun v3 B3 H3 p3 r3 => ?_
  have b3 := fmod_lt (a := (c.fmod 2147483647 * 48271 + k * 69621 + 1048583).fmod 2147483629 * (c.fmod 2147483647 * 48271 + k * 69621 + 1048583).fmod 2147483629) (b := 2147483587) (by decide)
  exact x_ret (ed_op (ed_op (ed_var rfl r3) (ed_op (ed_var rfl r3) (ed_c (.int 2)) (rd_addI _ _)) (rd_mulI (cmw 64 64 (by omega) (by omega)))) (ed_c (.int _)) (rd_mod (by decide))) p3.x fun v B4 H4 p4 r4 => q v B4 H4 ((p2.trans p3).trans p4) r4
/-- the script is told, and a place -/
def spCell (K : PySem.W.Frag) : Sp := fun vs H Q _ => ∃ (a : Addr) (ns : List Int) (k : Int) (B : Hp), vs = [.ref a, .int k] ∧ Same B H ∧ SqL K B a (ns.map V.int) ∧ 0 ≤ k ∧ k ≤ 100 ∧ ∀ B2 H2, Pu B H B2 H2 → Q (.int (cellF ns k)) H2
theorem ed_lenK {σ : L2.St} {B : Hp} {a : Addr} {xs : List V} {i : Nat} (hi : σ[i]? = some (some (.ref a))) (h : SqL K B a xs) : ED K (tCB (rLen K) (tCons (tVar i) tNil)) σ B (.int xs.length) := fun B1 H1 e1 e2 Q q =>
  ⟨_, hi, _, _, rfl, .inl ⟨xs, e2.seq (e1.seq h), rfl⟩, q _ B1 H1 (Pu.refl e2) (.int _)⟩
theorem ed_ixK {σ : L2.St} {B : Hp} {a : Addr} {ns : List Int} {i : Nat} {te : TE} {k x : Int} (hi : σ[i]? = some (some (.ref a))) (h : SqL K B a (ns.map V.int)) (hk : ED K te σ B (.int k)) (hx : atI ns k = some x) : ED K (tOp (rIx K) (tVar i) te) σ B (.int x) := fun B1 H1 e1 e2 Q q =>
  ⟨_, hi, hk B1 H1 e1 e2 _ fun v B2 H2 p2 r2 => by
    cases r2
    refine .inl ⟨a, _, k, .int x, rfl, rfl, p2.x.seq (p2.b.seq (e1.seq h)), ?_, q _ B2 H2 p2 (.int _)⟩
    unfold atI at hx ⊢
    rw [List.length_map]
    cases e : ixN ns.length k with
    | none => rw [e] at hx; cases hx
    | some j =>
      rw [e] at hx
      show (ns.map V.int)[j]? = _
      rw [List.getElem?_map]
      have : ns[j]? = some x := hx
      rw [this]
      rfl⟩
theorem ok_cell {f : Addr} {fd : FuncData} (F : Fun K "_law_cell" "_law_cell" s_law_cell f fd) (T : Glb mg) (D_law_mixed : DefK P w K mg base CX0 "_law_mixed" s_law_mixed 1 ["_law_cell_here", "_law_k"] (spMixed K)) :
    FnOk P w K mg base CX0 2 f fd ["_law_script", "_law_k"] (spCell K) := by
  refine F.ok sc_law_cell (fun vs H Q E h => ?_) (fun cdv A outer s H vs Q E hr h => ?_)
  · obtain ⟨a, ns, k, B, rfl, _⟩ := h
    rfl
  · obtain ⟨a, ns, k, B, rfl, e, hS, h0, h1, q⟩ := h
    have hu := hr.units
    have nd := sc_law_cell.nd
    refine ⟨_, (pss_cons (ps_set (i := 2) nd rfl (Or.inl rfl) pe_int)
      (pss_cons (ps_if (pt_cmpR op_lt (pv 1) (pe_callB (k_len (K := K) rfl) (by rfl) T.z_len (by decide +kernel) (pa_cons (pv 0) pa_nil)) (nomark _)) (pss_one (ps_set (i := 2) nd rfl (Or.inl rfl) (pe_ix (k_ix (K := K) rfl) (pv 0) (pv 1) (fun _ _ => rfl)))) pss_nil)
      (pss_cons (ps_if (pt_cmpR op_ge (pv 2) (pe_op op_pow pe_int pe_int) (nomark _)) (pss_one (ps_ret (pe_op op_modN (pe_op op_sub (pv 2) (pe_op op_pow pe_int pe_int)) (pe_op op_mulW (pe_op op_mulW (pe_op op_mulW (pe_op op_pow pe_int pe_int) (pe_op op_pow pe_int pe_int)) (pe_op op_pow pe_int pe_int)) (pe_op op_pow pe_int pe_int))))) pss_nil)
      (pss_cons (ps_set (i := 3) nd rfl (Or.inl rfl) pe_int)
      (pss_cons (ps_for PassesOwn.never rfl (pi_range1 (by rfl) T.z_range (pa_cons pe_int pa_nil)) (pg_name (i := 4) nd rfl (Or.inl rfl)) (pss_one (ps_set (i := 3) nd rfl (Or.inl rfl) (pe_op uop_add (pe_op op_mulW (pv 3) pe_int) (pe_def D_law_mixed (hr.mono (by decide)) (by rfl) (pa_cons (pv 2) (pa_cons (pe_op uop_add (pe_op uop_add (pe_op op_mulW pe_int (pv 1)) (pe_op op_mulW pe_int (pv 4))) (pe_op op_mulW (pv 4) (pv 4))) pa_nil)))))))
      (pss_one (ps_ret (pv 3)))))))), ?_⟩
    refine x_asg (K := K) (ed_c (.int 0)) e fun v2 B2 H2 p2 r2 => ?_
    cases r2
    refine x_whenJ (k := decide (k < ((ns.map V.int).length : Int))) [some (.ref a), some (.int k), some (.int (cellAt ns k)), none, none] ?_ (et_test (ed_op (ed_var rfl (.int k)) (ed_lenK rfl (p2.b.seq hS)) (rd_cmp (p := fun i j => decide (i < j)) _ _))) p2.x (fun main hk B3 H3 p3 => ?_) (fun main hk B3 H3 p3 => ?_)
    · intro B3 H3 p3'
      have p3 := p2.trans p3'
      refine x_when (k := decide ((10 : Int) ^ (18 : Int).toNat ≤ cellAt ns k)) (et_test (ed_op (K := K) (ed_var rfl (.int (cellAt ns k))) (ed_op (ed_c (.int 10)) (ed_c (.int 18)) (rd_pow ⟨by decide, by decide, by decide⟩)) (rd_cmp (p := fun i j => decide (j ≤ i)) _ _))) p3.x (fun hk B4 H4 p4 => ?_) (fun hk B4 H4 p4 => ?_)
      · have hk' := of_decide_eq_true hk
        refine x_ret (K := K) (d := .int (cellF ns k)) (ed_is (ed_op (ed_op (ed_var rfl (.int (cellAt ns k))) (ed_op (ed_c (.int 10)) (ed_c (.int 18)) (rd_pow ⟨by decide, by decide, by decide⟩)) (rd_sub _ _))
          (ed_op (ed_op (ed_op (ed_op (ed_c (.int 10)) (ed_c (.int 60)) (rd_pow ⟨by decide, by decide, by decide⟩)) (ed_op (ed_c (.int 10)) (ed_c (.int 60)) (rd_pow ⟨by decide, by decide, by decide⟩)) (rd_mulI (by unfold CMulW; decide +kernel))) (ed_op (ed_c (.int 10)) (ed_c (.int 60)) (rd_pow ⟨by decide, by decide, by decide⟩)) (rd_mulI (by unfold CMulW; decide +kernel))) (ed_op (ed_c (.int 10)) (ed_c (.int 60)) (rd_pow ⟨by decide, by decide, by decide⟩)) (rd_mulI (by unfold CMulW; decide +kernel)))
          (rd_mod (by decide +kernel))) ?_) p4.x fun v5 B5 H5 p5 r5 => ?_
        · unfold cellF
          rw [if_pos hk']
          rfl
        · cases r5
          exact q B5 H5 ((p3.trans p4).trans p5)
      · have hk' := of_decide_eq_false hk
        refine x_asg (K := K) (ed_c (.int 0)) p4.x fun v5 B5 H5 p5 r5 => ?_
        cases r5
        refine x_for (es_rng1 (K := K) (ea_cons (ed_c (.int 24)) ea_nil) (by decide)) p5.x fun B6 H6 p6 => ⟨fun i σ' B' H' => ∃ y, σ' = [some (.ref a), some (.int k), some (.int (cellAt ns k)), some (.int (foundI (cellAt ns k) k i)), y] ∧ Pu B6 H6 B' H',
          ⟨none, rfl, Pu.refl p6.x⟩, fun i σ' B' H' ⟨_, _, z⟩ => ⟨z.b, z.x⟩, ?_, ?_⟩
        · rintro i d σ' B' H' hi ⟨y, rfl, pz⟩ v B7 H7 p7 r7
          have hi24 : i < 24 := by
            have := (List.getElem?_eq_some_iff.mp hi).1
            simpa [rngD] using this
          have hd : d = .int (0 + (i : Int)) := by
            unfold rngD at hi
            rw [List.getElem?_map, List.getElem?_eq_getElem (by simpa using hi24)] at hi
            simpa using hi.symm
          subst hd
          cases r7
          have hb := found_nat (cellAt ns k) k i (by omega)
          have hq : (i : Int) * i ≤ 24 * 24 := Int.mul_le_mul (by omega) (by omega) (by omega) (by omega)
          have hq0 : (0 : Int) ≤ (i : Int) * i := Int.mul_nonneg (by omega) (by omega)
          refine x_asgE (ed_op (ed_op (ed_var rfl (.int (foundI (cellAt ns k) k i))) (ed_c (.int 2147483579)) (rd_mulI (cmw 744 64 hb (by decide)))) (ed_call1 (ea_cons (ed_var rfl (.int (cellAt ns k))) (ea_cons
            (ed_op (ed_op (ed_op (ed_c (.int 7)) (ed_var rfl (.int k)) (rd_mulI (cmw 64 64 (by decide) (by omega)))) (ed_op (ed_c (.int 100)) (ed_var rfl (.int (0 + (i : Int)))) (rd_mulI (cmw 64 64 (by decide) (by omega)))) (rd_addI _ _)) (ed_op (ed_var rfl (.int (0 + (i : Int)))) (ed_var rfl (.int (0 + (i : Int)))) (rd_mulI (cmw 64 64 (by omega) (by omega)))) (rd_addI _ _)) ea_nil)) ⟨_, _, rfl, ?_, ?_⟩) (rd_addI _ _)) p7.x fun v8 B8 H8 p8 r8 => ?_
          · rw [Int.zero_add]
            omega
          · rw [Int.zero_add]
            omega
          · cases r8
            refine ⟨B8, some (.int (0 + (i : Int))), ?_, (pz.trans p7).trans p8⟩
            rw [found_succ]
            rfl
        · rintro σ' B' H' ⟨y, rfl, pz⟩
          have hl : (rngD 0 (24 : Int).toNat).length = 24 := by decide +kernel
          rw [hl]
          refine x_ret (K := K) (d := .int (cellF ns k)) (ed_is (ed_var rfl (.int _)) ?_) pz.x fun v9 B9 H9 p9 r9 => ?_
          · unfold cellF
            rw [if_neg hk']
          · cases r9
            exact q B9 H9 (((((p3.trans p4).trans p5).trans p6).trans pz).trans p9)
    · have hk' := of_decide_eq_true hk
      rw [List.length_map] at hk'
      have e0 : (k.toNat : Int) = k := by omega
      have hx : atI ns k = some (cellAt ns k) := by
        unfold cellAt
        rw [if_pos hk']
        have := atI_nat (xs := ns) (j := k.toNat) (v := ns.getD k.toNat 0) (by rw [List.getD_eq_getElem?_getD, List.getElem?_eq_getElem (by omega)]; rfl)
        rwa [e0] at this
      refine x_asgE (ed_ixK rfl ((p2.trans p3).b.seq hS) (ed_var rfl (.int k)) hx) p3.x fun v4 B4 H4 p4 r4 => ?_
      cases r4
      exact main B4 H4 (p3.trans p4)
    · have hk' := of_decide_eq_false hk
      rw [List.length_map] at hk'
      have hx : cellAt ns k = 0 := if_neg hk'
      have := main B3 H3 p3
      rw [hx] at this
      exact this
/-- the pile's digit -/
def domTk (ds : List Dt) : Prop := ∃ k : Int, ds = [.int k] ∧ 0 < k ∧ k ≤ 1000000000
def takeD (ds : List Dt) (n : Int) : Dt × Int := match ds with
  | [.int k] => (.int (n.fmod k), n.fdiv k)
  | _ => (.non, n)
abbrev spTake (K : PySem.W.Frag) : Sp := PP K domTk takeD
theorem ok_take {f : Addr} {fd : FuncData} (F : Fun K "_law_take" "_law_take" s_law_take f fd) : FnOk P w K mg base CX0 1 f fd ["_law_pile", "_law_size"] (spTake K) := by
  refine ok_pp F sc_law_take (fun ds ⟨k, h, _⟩ => by rw [h]; rfl) (fun cdv A outer s H E hr => ?_)
  have hu := hr.units
  have nd := sc_law_take.nd
  refine ⟨_, (pss_cons (ps_set (i := 2) nd rfl (Or.inl rfl) (pe_op op_modN (pe_ix (k_ix (K := K) rfl) (pv 0) pe_int (fun _ _ => rfl)) (pv 1)))
      (pss_cons (ps_asg (pe_op op_fdivN (pe_ix (k_ix (K := K) rfl) (pv 0) pe_int (fun _ _ => rfl)) (pv 1)) (pg_sub (pv 0) pe_int set_list))
      (pss_one (ps_ret (pv 2))))), ?_⟩
  rintro p n B ws _ Q l r ⟨k, rfl, h0, h1⟩ q
  obtain ⟨v, rfl, rv⟩ := r.one
  cases rv
  have hk : k ≠ 0 := by omega
  have hk2 : CDivN k k := ⟨hk, by omega⟩
  -- digit = pile[0] % size
  refine ⟨.ref p, rfl, .inl ⟨p, _, 0, .int n, rfl, rfl, .inl (.inl l.at_), rfl, .int k, rfl, n, k, rfl, rfl, hk, ?_⟩⟩
  -- pile[0] = pile[0] // size
  refine ⟨.ref p, rfl, .inl ⟨p, _, 0, .int n, rfl, rfl, .inl (.inl l.at_), rfl, .int k, rfl, n, k, rfl, rfl, ⟨hk, hk2.2⟩, ?_⟩⟩
  refine ⟨.ref p, rfl, p, _, 0, 0, rfl, rfl, l.at_, rfl, ?_⟩
  refine ⟨.int (n.fmod k), rfl, ?_⟩
  refine q _ B _ ⟨Same.refl B, same_hid l.x l.hb, fun a o z1 z2 => ⟨z1, fun hne => by rw [upd_ne hne]; exact z2⟩, fun o _ => ⟨_, upd_same⟩⟩ ⟨same_hid l.x l.hb, l.hb, upd_same⟩ (.int _)
theorem ep_take {p : Addr} {σ : L2.St} {B : Hp} {n n1 k : Int} {ts : TA} {E : XK} {i : Nat} (hi : σ[i]? = some (some (.ref p))) (h : EPA K p ts σ B n [.int k] n1) (h0 : 0 < k) (h1 : k ≤ 1000000000) :
    EP K p (tCall (spTake K) [] E (tCons (tVar i) ts)) σ B n (.int (n1.fmod k)) (n1.fdiv k) := ep_call hi h ⟨k, rfl, h0, h1⟩
/-- .. by a written number -/
theorem ep_takeC {p : Addr} {σ : L2.St} {B : Hp} {n k : Int} {E : XK} {i : Nat} (hi : σ[i]? = some (some (.ref p))) (h0 : 0 < k := by decide) (h1 : k ≤ 1000000000 := by decide) :
    EP K p (tCall (spTake K) [] E (tCons (tVar i) (tCons (tC (.int k)) tNil))) σ B n (.int (n.fmod k)) (n.fdiv k) := ep_take hi (epa_of (ea_cons (ed_c (.int k)) ea_nil)) h0 h1
def domN (ds : List Dt) : Prop := ds = []
abbrev spPart (K : PySem.W.Frag) : Sp := PP K domN (fun _ n => (.str (partF n).1, (partF n).2))
theorem ok_part_drawn {f : Addr} {fd : FuncData} (F : Fun K "_law_part_drawn" "_law_part_drawn" s_law_part_drawn f fd) (T : Glb mg) (D_law_take : DefK P w K mg base CX0 "_law_take" s_law_take 1 ["_law_pile", "_law_size"] (spTake K)) :
    FnOk P w K mg base CX0 2 f fd ["_law_pile"] (spPart K) := by
  refine ok_pp F sc_law_part_drawn (fun ds h => by rw [h]; rfl) (fun cdv A outer s H E hr => ?_)
  have hu := hr.units
  have nd := sc_law_part_drawn.nd
  refine ⟨_, (pss_cons (ps_set (i := 1) nd rfl (Or.inl rfl) (pe_def D_law_take (hr.mono (by decide)) (by rfl) (pa_cons (pv 0) (pa_cons pe_int pa_nil))))
      (pss_cons (ps_if (pt_cmpR op_lt (pv 1) pe_int (nomark _)) (pss_one (ps_ret (pe_ix (k_ix (K := K) rfl) (pe_lst (pa_cons pe_str (pa_cons pe_str (pa_cons pe_str pa_nil)))) (pv 1) (fun _ _ => rfl)))) pss_nil)
      (pss_cons (ps_set (i := 2) nd rfl (Or.inl rfl) (pe_op uop_add pe_int (pe_def D_law_take (hr.mono (by decide)) (by rfl) (pa_cons (pv 0) (pa_cons pe_int pa_nil)))))
      (pss_one (ps_ret (k_bm (K := K) rfl PySem.F.plainAttrs_str PySem.F.slot_str_join PySem.F.type_str_join (k_join (K := K) rfl) pe_str (pa_cons (pe_lc (own := [("_law_k", 3)]) (g := gName 3) rfl nd (pi_range1 (by rfl) T.z_range (pa_cons (pv 2) pa_nil)) (blkOk_by (N := ["_law_pile", "_law_way", "_law_many", "_law_k"]) (sc := defScope s_law_part_drawn) (own := [("_law_k", 3)]) (by decide +kernel)) (fun _ _ _ _ _ => (pg_name (i := 3) nd rfl (Or.inl rfl))) (fun _ _ _ _ _ => pts_nil) (fun _ _ _ _ _ => by exact (pe_ix (k_ix (K := K) rfl) pe_str (pe_def D_law_take (hr.mono (by decide)) (by rfl) (pa_cons (pv 0) (pa_cons pe_int pa_nil))) (fun _ _ => rfl)))) pa_nil))))))), ?_⟩
  rintro p n B ws _ Q l r rfl q
  cases r
  refine y_asg (ep_takeC rfl) l fun v2 B2 H2 m2 l2 r2 => ?_
  cases r2
  have h5 := fmod_lt (a := n) (b := 5) (by decide)
  refine y_when (ept_of (et_test (ed_op (K := K) (ed_var rfl (.int _)) (ed_c (.int 3)) (rd_cmp (p := fun i j => decide (i < j)) _ _)))) l2 (fun hk B3 H3 m3 l3 => ?_) (fun hk B3 H3 m3 l3 => ?_)
  · have hk' := of_decide_eq_true hk
    have e : partF n = (threeS (n.fmod 5), n.fdiv 5) := if_pos hk'
    have ha : atI [Dt.str "a", .str "b", .str "ab"] (n.fmod 5) = some (.str (threeS (n.fmod 5))) := by
      have : n.fmod 5 = 0 ∨ n.fmod 5 = 1 ∨ n.fmod 5 = 2 := by omega
      rcases this with z | z | z <;> rw [z] <;> rfl
    refine y_ret (ep_of (ed_op (ed_lst (ea_cons (ed_c (.str _)) (ea_cons (ed_c (.str _)) (ea_cons (ed_c (.str _)) ea_nil))) (by decide)) (ed_var rfl (.int _)) (rd_ixL ha))) l3 fun v4 B4 H4 m4 l4 r4 => ?_
    rw [e] at q
    exact q v4 B4 H4 ((m2.trans m3).trans m4) l4 r4
  · have hk' := of_decide_eq_false hk
    have h8 := fmod_lt (a := n.fdiv 5) (b := 8) (by decide)
    refine y_asg (ep_op (ep_of (ed_c (.int 1))) (ep_takeC rfl) (rd_addI _ _)) l3 fun v4 B4 H4 m4 l4 r4 => ?_
    cases r4
    have e : partF n = (Txt.join "" (drawL letF (rngD 0 (1 + (n.fdiv 5).fmod 8).toNat) ((n.fdiv 5).fdiv 8)).1, (drawL letF (rngD 0 (1 + (n.fdiv 5).fmod 8).toNat) ((n.fdiv 5).fdiv 8)).2) := if_neg hk'
    have key := drawL_map (fun d m => (Dt.str (letF d m).1, (letF d m).2)) letF Dt.str (fun _ _ => rfl) (rngD 0 (1 + (n.fdiv 5).fmod 8).toNat) ((n.fdiv 5).fdiv 8)
    refine y_ret (ep_bm (ep_of (ed_c (.str ""))) rfl (epa_cons (ep_is (ep_lc (fun d m => (Dt.str (letF d m).1, (letF d m).2)) (eps_of (es_rng1 (ea_cons (ed_var rfl (.int _)) ea_nil) (by omega))) (by simp [rngD]; omega) (fun _ => rfl) (fun d hd m v B' e' r' => ?_))
      (congrArg (fun z => Dt.lst z.1) key) (congrArg Prod.snd key)) epa_nil) (rm_join ?_)) l4 fun v5 B5 H5 m5 l5 r5 => ?_
    · exact ep_op (ep_of (ed_c (.str letterS))) (ep_takeC rfl) (rd_ixS (by decide +kernel) (letter_at m))
    · have h1 : ∀ y ∈ (drawL letF (rngD 0 (1 + (n.fdiv 5).fmod 8).toNat) ((n.fdiv 5).fdiv 8)).1, y.length = 1 := drawL_all (P := fun (y : Str) => y.length = 1) (fun _ _ => rfl) _ _
      have h2 : (drawL letF (rngD 0 (1 + (n.fdiv 5).fmod 8).toNat) ((n.fdiv 5).fdiv 8)).1.length ≤ 8 := by
        rw [drawL_len]
        simp [rngD]
        omega
      generalize (drawL letF (rngD 0 (1 + (n.fdiv 5).fmod 8).toNat) ((n.fdiv 5).fdiv 8)).1 = ys at h1 h2
      have h3 : (ys.map (·.length)).sum ≤ ys.length := by
        clear h2
        induction ys with
        | nil => simp
        | cons y ys ih =>
          have := h1 y (List.mem_cons_self ..)
          have := ih fun z hz => h1 z (List.mem_cons_of_mem _ hz)
          simp only [List.map_cons, List.sum_cons, List.length_cons]
          omega
      have h4 : ("" : Str).length = 0 := by decide +kernel
      rw [h4]
      omega
    · rw [e] at q
      exact q v5 B5 H5 (((m2.trans m3).trans m4).trans m5) l5 r5
def domNm (ds : List Dt) : Prop := ∃ k : Int, ds = [.int k] ∧ 0 < k ∧ k ≤ 100
def nameD (ds : List Dt) (n : Int) : Dt × Int := match ds with
  | [.int k] => (.str (nameF k n).1, (nameF k n).2)
  | _ => (.non, n)
abbrev spName (K : PySem.W.Frag) : Sp := PP K domNm nameD
theorem ok_name_drawn {f : Addr} {fd : FuncData} (F : Fun K "_law_name_drawn" "_law_name_drawn" s_law_name_drawn f fd) (T : Glb mg) (D_law_take : DefK P w K mg base CX0 "_law_take" s_law_take 1 ["_law_pile", "_law_size"] (spTake K)) (D_law_part_drawn : DefK P w K mg base CX0 "_law_part_drawn" s_law_part_drawn 2 ["_law_pile"] (spPart K)) :
    FnOk P w K mg base CX0 3 f fd ["_law_pile", "_law_most"] (spName K) := by
  refine ok_pp F sc_law_name_drawn (fun ds ⟨k, h, _⟩ => by rw [h]; rfl) (fun cdv A outer s H E hr => ?_)
  have hu := hr.units
  have nd := sc_law_name_drawn.nd
  refine ⟨_, (pss_one (ps_ret (k_bm (K := K) rfl PySem.F.plainAttrs_str PySem.F.slot_str_join PySem.F.type_str_join (k_join (K := K) rfl) pe_str (pa_cons (pe_lc (own := [("_law_k", 2)]) (g := gName 2) rfl nd (pi_range1 (by rfl) T.z_range (pa_cons (pe_op uop_add pe_int (pe_def D_law_take (hr.mono (by decide)) (by rfl) (pa_cons (pv 0) (pa_cons (pv 1) pa_nil)))) pa_nil)) (blkOk_by (N := ["_law_pile", "_law_most", "_law_k"]) (sc := defScope s_law_name_drawn) (own := [("_law_k", 2)]) (by decide +kernel)) (fun _ _ _ _ _ => (pg_name (i := 2) nd rfl (Or.inl rfl))) (fun _ _ _ _ _ => pts_nil) (fun _ _ _ _ _ => by exact (pe_def D_law_part_drawn (hr.mono (by decide)) (by rfl) (pa_cons (pv 0) pa_nil)))) pa_nil)))), ?_⟩
  rintro p n B ws _ Q l r ⟨k, rfl, h0, h1⟩ q
  obtain ⟨v, rfl, rv⟩ := r.one
  have hk := fmod_lt (a := n) h0
  have key := drawL_map (fun (_ : Dt) m => (Dt.str (partF m).1, (partF m).2)) (fun (_ : Dt) m => partF m) Dt.str (fun _ _ => rfl) (rngD 0 (1 + n.fmod k).toNat) (n.fdiv k)
  refine y_ret (ep_bm (ep_of (ed_c (.str LM.dotS))) rfl (epa_cons (ep_is (ep_lc (fun _ m => (Dt.str (partF m).1, (partF m).2)) (eps_rng1 (epa_cons (ep_op (ep_of (ed_c (.int 1))) (ep_take rfl (epa_of (ea_cons (ed_var rfl rv) ea_nil)) h0 (by omega)) (rd_addI _ _)) epa_nil) (by omega)) (by simp [rngD]; omega) (fun _ => rfl)
    (fun d hd m v B' e' r' => ep_call rfl epa_nil rfl)) (congrArg (fun z => Dt.lst z.1) key) (congrArg Prod.snd key)) epa_nil) (rm_join ?_)) l fun v5 B5 H5 m5 l5 r5 => q v5 B5 H5 m5 l5 r5
  have h2 := sum_le (l := (partsF k n).1) (parts_all k n)
  have h3 := parts_len k n h0
  have h4 : LM.dotS.length = 1 := by decide +kernel
  show ((partsF k n).1.map (·.length)).sum + (partsF k n).1.length * LM.dotS.length ≤ _
  rw [h4]
  omega
end

section
variable {P : Program} {w : World} {K : PySem.W.Frag} {mg : Str → Option Value} {base : Heap}
theorem ok_law_is_part {f : Addr} {fd : FuncData} (F : Fun K "_law_is_part" "_law_is_part" s_law_is_part f fd) (T : Glb mg) : FnOk P w K mg base CX0 1 f fd ["_law_thing_told"] (PF K dom1 (fun ds => .bl (isPartD (hd0 ds)))) := by
  refine ok_pf F sc_law_is_part dom1_len (fun cdv A outer s H E hr => ?_)
  have hu := hr.units
  have nd := sc_law_is_part.nd
  refine ⟨_, (pss_cons (ps_if (PW.pt (pw_or (pt_not (pt_val (pe_callB (k_isi (K := K) rfl) (by rfl) T.z_isinstance (by decide +kernel) (pa_cons (pv 0) (pa_cons (pe_bltn (v := .ty "str") (by rfl) T.z_str (by decide +kernel) rfl) pa_nil))))) (pw_or (pt_cmpR (k_eq (K := K) rfl hu) (pv 0) pe_str (nomark _)) (pw_or1 (pt_cmpR op_gt (pe_callB (k_len (K := K) rfl) (by rfl) T.z_len (by decide +kernel) (pa_cons (pv 0) pa_nil)) pe_int (nomark _)))))) (pss_one (ps_ret pe_bl)) pss_nil)
      (pss_one (ps_ret (pe_callB (k_all (K := K) rfl rfl) (by rfl) T.z_all (by decide +kernel) (pa_cons (pe_lc (own := [("_law_sign", 1)]) (g := gName 1) rfl nd (pi_str (pv 0)) (blkOk_by (N := ["_law_thing_told", "_law_sign"]) (sc := defScope s_law_is_part) (own := [("_law_sign", 1)]) (by decide +kernel)) (fun _ _ _ _ _ => (pg_name (i := 1) nd rfl (Or.inl rfl))) (fun _ _ _ _ _ => pts_nil) (fun _ _ _ _ _ => by exact (pe_cmpR uop_inSg (pv 1) pe_str (by rfl)))) pa_nil))))), ?_⟩
  rintro B vs _ Q e r ⟨d, rfl, ho, hs⟩ q
  obtain ⟨v, rfl, rv⟩ := r.one
  have fin : ∀ {B4 H4 k}, Pu B H B4 H4 → k = isPartD d → ∀ v, Rp K B4 v (.bl k) → Q v H4 := fun p4 ek v r4 => q v _ _ p4 (by subst ek; exact r4)
  cases d with
  | str z =>
    have hs' : z.length ≤ 100000 := hs
    refine x_when (et_or (et_not (et_B (ed_cb (ea_cons (ed_var rfl rv) (ea_cons (ed_c (.ty _)) ea_nil)) (rc_isi_str ho)))) fun _ => et_or (et_test (ed_op (ed_var rfl rv) (ed_c (.str "")) (rd_eq rfl rfl))) fun _ => et_test (ed_op (ed_cb (ea_cons (ed_var rfl rv) ea_nil) (rc_lenS (by omega))) (ed_c (.int 8)) (rd_cmp (p := fun i j => decide (j < i)) _ _))) e (fun hk B2 H2 p2 => ?_) (fun hk B2 H2 p2 => ?_)
    · refine x_ret (K := K) (ed_c (.bl false)) p2.x fun v B3 H3 p3 r3 => fin (p2.trans p3) ?_ v r3
      have hk' : z = "" ∨ 8 < (z.length : Int) := by
        simpa [isStr, eqD, toP, PyData.eqv] using hk
      show false = partS z
      unfold partS
      rcases hk' with rfl | h
      · decide +kernel
      · rw [decide_eq_false (by omega : ¬ ((z.length : Int) ≤ 8)), Bool.and_false, Bool.false_and]
    · have hk' : ¬ z = "" ∧ ¬ 8 < (z.length : Int) := by
        simpa [isStr, eqD, toP, PyData.eqv] using hk
      have h1 : 1 ≤ z.length := by
        rcases Nat.eq_zero_or_pos z.length with h | h
        · exact absurd (ext_tl (by rw [len_tl] at h; rw [List.length_eq_zero_iff.mp h]; rfl)) hk'.1
        · exact h
      refine x_ret (K := K) (ed_cb (ea_cons (ed_is (ed_map (fun c => match c with | .str x => .bl (decide (x.cps.getD 0 0 ∈ smallS.cps.toList)) | _ => .non) (es_str (ed_var rfl (rv.mono p2.b))) (by rw [signs_len]; omega) (fun _ => rfl) (fun d hd v' B' e' r' => ?_)) ?_) ea_nil) (rc_all (bs := z.cps.toList.map fun c => decide (c ∈ smallS.cps.toList)))) p2.x fun v B3 H3 p3 r3 => fin (p2.trans p3) ?_ v r3
      · unfold signsD at hd
        obtain ⟨c, hc, rfl⟩ := List.mem_map.mp hd
        exact ed_op (ed_var rfl r') (ed_c (.str smallS)) (rd_inSg _ _)
      · simp [signsD, Function.comp_def]
      · show _ = partS z
        unfold partS
        rw [decide_eq_true (by omega : (1 : Int) ≤ (z.length : Int)), decide_eq_true (by omega : (z.length : Int) ≤ 8), all_map_bl]
        rfl
  | loc a => cases ho
  | ty a => cases ho
  | _ =>
    refine x_when (k := true) (et_is (et_or (k := true) (et_not (et_B (ed_cb (ea_cons (ed_var rfl rv) (ea_cons (ed_c (.ty _)) ea_nil)) (rc_isi_str ho)))) (l := false) (fun h => nomatch h)) rfl) e (fun hk B2 H2 p2 => ?_) (fun hk => nomatch hk)
    exact x_ret (K := K) (ed_c (.bl false)) p2.x fun v B3 H3 p3 r3 => fin (p2.trans p3) rfl v r3
theorem ok_law_is_name {f : Addr} {fd : FuncData} (F : Fun K "_law_is_name" "_law_is_name" s_law_is_name f fd) (T : Glb mg) (D_law_is_part : DefK P w K mg base CX0 "_law_is_part" s_law_is_part 1 ["_law_thing_told"] (PF K dom1 (fun ds => .bl (isPartD (hd0 ds))))) :
    FnOk P w K mg base CX0 2 f fd ["_law_thing_told"] (PF K dom1 (fun ds => .bl (isNameD (hd0 ds)))) := by
  refine ok_pf F sc_law_is_name dom1_len (fun cdv A outer s H E hr => ?_)
  have hu := hr.units
  have nd := sc_law_is_name.nd
  refine ⟨_, (pss_cons (ps_if (PW.pt (pw_or (pt_not (pt_val (pe_callB (k_isi (K := K) rfl) (by rfl) T.z_isinstance (by decide +kernel) (pa_cons (pv 0) (pa_cons (pe_bltn (v := .ty "str") (by rfl) T.z_str (by decide +kernel) rfl) pa_nil))))) (pw_or1 (pt_cmpR op_gt (k_bm (K := K) rfl PySem.F.plainAttrs_str PySem.F.slot_str_count PySem.F.type_str_count umt_count (pv 0) (pa_cons pe_str pa_nil)) pe_int (nomark _))))) (pss_one (ps_ret pe_bl)) pss_nil)
      (pss_one (ps_ret (pe_callB (k_all (K := K) rfl rfl) (by rfl) T.z_all (by decide +kernel) (pa_cons (pe_lc (own := [("_law_part", 1)]) (g := gName 1) rfl nd (k_pi_list (K := K) rfl (k_bm (K := K) rfl PySem.F.plainAttrs_str PySem.F.slot_str_split PySem.F.type_str_split umt_split (pv 0) (pa_cons pe_str pa_nil))) (blkOk_by (N := ["_law_thing_told", "_law_part"]) (sc := defScope s_law_is_name) (own := [("_law_part", 1)]) (by decide +kernel)) (fun _ _ _ _ _ => (pg_name (i := 1) nd rfl (Or.inl rfl))) (fun _ _ _ _ _ => pts_nil) (fun _ _ _ _ _ => by exact (pe_def D_law_is_part (hr.mono (by decide)) (by rfl) (pa_cons (pv 1) pa_nil)))) pa_nil))))), ?_⟩
  rintro B vs _ Q e r ⟨d, rfl, ho, hs⟩ q
  obtain ⟨v, rfl, rv⟩ := r.one
  have fin : ∀ {B4 H4 k}, Pu B H B4 H4 → k = isNameD d → ∀ v, Rp K B4 v (.bl k) → Q v H4 := fun p4 ek v r4 => q v _ _ p4 (by subst ek; exact r4)
  cases d with
  | str z =>
    have hs' : z.length ≤ 100000 := hs
    have hm := split_many (x := z) LM.tl_dot (by decide)
    have hc := split_count LM.tl_dot (by decide) z
    refine x_when (et_or (et_not (et_B (ed_cb (ea_cons (ed_var rfl rv) (ea_cons (ed_c (.ty _)) ea_nil)) (rc_isi_str ho)))) fun _ => et_test (ed_op (ed_bm (ed_var rfl rv) rfl (ea_cons (ed_c (.str LM.dotS)) ea_nil) rm_count) (ed_c (.int 3)) (rd_cmp (p := fun i j => decide (j < i)) _ _))) e (fun hk B2 H2 p2 => ?_) (fun hk B2 H2 p2 => ?_)
    · refine x_ret (K := K) (ed_c (.bl false)) p2.x fun v B3 H3 p3 r3 => fin (p2.trans p3) ?_ v r3
      have hk' : 3 < Txt.count z LM.dotS := by simpa [isStr] using hk
      show false = nameS z
      unfold nameS
      rw [decide_eq_false (by omega : ¬ (((Txt.split z LM.dotS).length : Int) ≤ 4)), Bool.false_and]
    · have hk' : ¬ 3 < Txt.count z LM.dotS := by simpa [isStr] using hk
      refine x_ret (K := K) (ed_cb (ea_cons (ed_is (ed_map (fun c => .bl (isPartD c)) (es_list (ed_split (ed_var rfl (rv.mono p2.b)) (ea_cons (ed_c (.str LM.dotS)) ea_nil) (by decide +kernel) (by omega))) (by rw [strs_len]; omega) (fun _ => rfl) (fun d hd v' B' e' r' => ?_)) ?_) ea_nil) (rc_all (bs := (Txt.split z LM.dotS).map partS))) p2.x fun v B3 H3 p3 r3 => fin (p2.trans p3) ?_ v r3
      · unfold strsD at hd
        obtain ⟨c, hc, rfl⟩ := List.mem_map.mp hd
        exact ed_call1 (ea_cons (ed_var rfl r') ea_nil) ⟨_, rfl, rfl, Nat.le_trans (split_len LM.tl_dot (by decide) hc) hs'⟩
      · simp [strsD, Function.comp_def, isPartD]
      · show _ = nameS z
        unfold nameS
        rw [decide_eq_true (by omega : (((Txt.split z LM.dotS).length : Int) ≤ 4)), all_map_bl, Bool.true_and]
  | loc a => cases ho
  | ty a => cases ho
  | _ =>
    refine x_when (k := true) (et_is (et_or (k := true) (et_not (et_B (ed_cb (ea_cons (ed_var rfl rv) (ea_cons (ed_c (.ty _)) ea_nil)) (rc_isi_str ho)))) (l := false) (fun h => nomatch h)) rfl) e (fun hk B2 H2 p2 => ?_) (fun hk => nomatch hk)
    exact x_ret (K := K) (ed_c (.bl false)) p2.x fun v B3 H3 p3 r3 => fin (p2.trans p3) rfl v r3
theorem ok_truths {f : Addr} {fd : FuncData} (F : Fun K "_law_truths_good" "_law_truths_good" s_law_truths_good f fd) (T : Glb mg)
    (D_is_part : DefK P w K mg base CX0 "is_part" s_is_part 1 ["thing"] (PF K dom1 (fun ds => .bl (isPartD (hd0 ds))))) (D_is_name : DefK P w K mg base CX0 "is_name" s_is_name 2 ["thing"] (PF K dom1 (fun ds => .bl (isNameD (hd0 ds)))))
    (D_law_is_part : DefK P w K mg base CX0 "_law_is_part" s_law_is_part 1 ["_law_thing_told"] (PF K dom1 (fun ds => .bl (isPartD (hd0 ds))))) (D_law_is_name : DefK P w K mg base CX0 "_law_is_name" s_law_is_name 2 ["_law_thing_told"] (PF K dom1 (fun ds => .bl (isNameD (hd0 ds))))) :
    FnOk P w K mg base CX0 3 f fd ["_law_thing_told"] (PF K dom1 (fun _ => .bl true)) := by
  refine ok_pf F sc_law_truths_good dom1_len (fun cdv A outer s H E hr => ?_)
  have hu := hr.units
  have nd := sc_law_truths_good.nd
  refine ⟨_, (pss_cons (ps_set (i := 1) nd rfl (Or.inl rfl) (pe_lst (pa_cons (pe_def D_is_part (hr.mono (by decide)) (by rfl) (pa_cons (pv 0) pa_nil)) (pa_cons (pe_def D_is_name (hr.mono (by decide)) (by rfl) (pa_cons (pv 0) pa_nil)) pa_nil))))
      (pss_cons (ps_if (pt_not (pt_val (pe_callB (k_all (K := K) rfl rfl) (by rfl) T.z_all (by decide +kernel) (pa_cons (pe_lc (own := [("_law_truth", 2)]) (g := gName 2) rfl nd (k_pi_list (K := K) rfl (pv 1)) (blkOk_by (N := ["_law_thing_told", "_law_found", "_law_truth"]) (sc := defScope s_law_truths_good) (own := [("_law_truth", 2)]) (by decide +kernel)) (fun _ _ _ _ _ => (pg_name (i := 2) nd rfl (Or.inl rfl))) (fun _ _ _ _ _ => pts_nil) (fun _ _ _ _ _ => by exact (pe_callB (k_isi (K := K) rfl) (by rfl) T.z_isinstance (by decide +kernel) (pa_cons (pv 2) (pa_cons (pe_bltn (v := .ty "bool") (by rfl) T.z_bool (by decide +kernel) rfl) pa_nil))))) pa_nil)))) (pss_one (ps_ret pe_bl)) pss_nil)
      (pss_cons (ps_if (pt_cmpR (k_ne (K := K) rfl hu) (pe_lst (pa_cons (pe_defN0 (ks := ["thing"]) D_is_part (fun us ws => us ++ ws) (fun r z => r.append z) (hr.mono (by decide)) (by rfl) (pk_cons (pv 0) pk_nil) (fun _ _ _ _ _ _ us ws h0 hl => match us, ws, h0, hl with | [], [_], _, _ => rfl)) (pa_cons (pe_defN0 (ks := ["thing"]) D_is_name (fun us ws => us ++ ws) (fun r z => r.append z) (hr.mono (by decide)) (by rfl) (pk_cons (pv 0) pk_nil) (fun _ _ _ _ _ _ us ws h0 hl => match us, ws, h0, hl with | [], [_], _, _ => rfl)) pa_nil))) (pv 1) (nomark _)) (pss_one (ps_ret pe_bl)) pss_nil)
      (pss_one (ps_ret (pe_cmpR (k_eq (K := K) rfl hu) (pv 1) (pe_lst (pa_cons (pe_def D_law_is_part (hr.mono (by decide)) (by rfl) (pa_cons (pv 0) pa_nil)) (pa_cons (pe_def D_law_is_name (hr.mono (by decide)) (by rfl) (pa_cons (pv 0) pa_nil)) pa_nil))) (nomark _))))))), ?_⟩
  rintro B vs _ Q e r ⟨d, rfl, ho, hs⟩ q
  obtain ⟨v, rfl, rv⟩ := r.one
  have hd : dom1 [d] := ⟨d, rfl, ho, hs⟩
  refine x_asg (ed_lst (ea_cons (ed_call1 (ea_cons (ed_var rfl rv) ea_nil) hd) (ea_cons (ed_call1 (ea_cons (ed_var rfl rv) ea_nil) hd) ea_nil)) (by simp)) e fun v2 B2 H2 p2 r2 => ?_
  have rv2 := rv.mono p2.b
  refine x_when (k := false) (et_is (et_not (et_B (ed_cb (ea_cons (ed_map (fun c => .bl (isBl c)) (es_list (ed_var rfl r2)) (by simp) (fun _ => rfl) (fun d hd v' B' e' r' => ?_)) ea_nil) (rc_all (bs := [true, true]))))) rfl) p2.x (fun hk => nomatch hk) (fun _ B3 H3 p3 => ?_)
  · refine ed_cb (ea_cons (ed_var rfl r') (ea_cons (ed_c (.ty _)) ea_nil)) (rc_isi_bl ?_)
    rcases List.mem_cons.mp hd with rfl | hd
    · rfl
    · rw [List.mem_singleton.mp hd]
      rfl
  · have rv3 := rv2.mono p3.b
    have r3 := r2.mono p3.b
    refine x_when (k := false) (et_is (et_test (ed_op (ed_lst (ea_cons (ed_callN (es := [d]) (gD := fun us ws => us ++ ws) ea_nil (ea_cons (ed_var rfl rv3) ea_nil) rfl rfl (fun B vs zs a b => a.app b) hd) (ea_cons (ed_callN (es := [d]) (gD := fun us ws => us ++ ws) ea_nil (ea_cons (ed_var rfl rv3) ea_nil) rfl rfl (fun B vs zs a b => a.app b) hd) ea_nil)) (by simp)) (ed_var rfl r3) (rd_ne rfl rfl))) ?_) p3.x (fun hk => nomatch hk) (fun _ B4 H4 p4 => ?_)
    · exact congrArg Bool.not (eqD_refl _)
    · have rv4 := rv3.mono p4.b
      exact x_ret (ed_is (ed_op (ed_var rfl (r3.mono p4.b)) (ed_lst (ea_cons (ed_call1 (ea_cons (ed_var rfl rv4) ea_nil) hd) (ea_cons (ed_call1 (ea_cons (ed_var rfl rv4) ea_nil) hd) ea_nil)) (by simp)) (rd_eq rfl rfl)) (congrArg Dt.bl (eqD_refl _))) p4.x fun v B5 H5 p5 r5 => q v B5 H5 (((p2.trans p3).trans p4).trans p5) r5
/-- a drawn name is handed in -/
def domL (ds : List Dt) : Prop := ∃ l : List Str, ds = [.str (Txt.join LM.dotS l)] ∧ (∀ y ∈ l, partS y = true) ∧ l ≠ [] ∧ l.length ≤ 100
theorem ok_parts_good {f : Addr} {fd : FuncData} (F : Fun K "_law_parts_good" "_law_parts_good" s_law_parts_good f fd) (T : Glb mg)
    (D_elders : DefK P w K mg base CX0 "elders" s_elders 1 ["name"] (PL K domS (fun ds => strsD (eldersS (txt (hd0 ds)))))) (D_elder_of : DefK P w K mg base CX0 "elder_of" s_elder_of 1 ["name"] (PF K domS (fun ds => elderD (txt (hd0 ds)))))
    (D_last_of : DefK P w K mg base CX0 "last_of" s_last_of 1 ["name"] (PF K domS (fun ds => .str (lastS (txt (hd0 ds)))))) :
    FnOk P w K mg base CX0 2 f fd ["_law_name_told"] (PF K domL (fun _ => .bl true)) := by
  refine ok_pf F sc_law_parts_good (fun ds ⟨l, h, _⟩ => by rw [h]; rfl) (fun cdv A outer s H E hr => ?_)
  have hu := hr.units
  have nd := sc_law_parts_good.nd
  refine ⟨_, (pss_cons (ps_set (i := 1) nd rfl (Or.inr rfl) (k_bm (K := K) rfl PySem.F.plainAttrs_str PySem.F.slot_str_split PySem.F.type_str_split umt_split (pv 0) (pa_cons pe_str pa_nil)))
      (pss_cons (ps_setLc (i := 2) (own := [("_law_many", 6)]) (g := gName 6) rfl nd rfl rfl (sw_true rfl rfl rfl (by decide +kernel)) (pi_range2 (by rfl) T.z_range (pa_cons pe_int (pa_cons (pe_op uop_add (pe_callB (k_len (K := K) rfl) (by rfl) T.z_len (by decide +kernel) (pa_cons (pv 1) pa_nil)) pe_int) pa_nil))) (blkOk_by (N := ["_law_name_told", "_law_parts", "_law_due", "_law_turn", "_law_found", "_law_elder", "_law_many"]) (sc := defScope s_law_parts_good) (own := [("_law_many", 6)]) (by decide +kernel)) (fun _ _ _ _ _ => (pg_name (i := 6) nd rfl (Or.inl rfl))) (fun _ _ _ _ _ => pts_nil) (fun _ _ _ _ _ => by exact (k_bm (K := K) rfl PySem.F.plainAttrs_str PySem.F.slot_str_join PySem.F.type_str_join (k_join (K := K) rfl) pe_str (pa_cons (pe_slice (k_sl (K := K) rfl) (pv 1) po_none (po_some (pv 6))) pa_nil))))
      (pss_cons (ps_for PassesOwn.never rfl (pi_range1 (by rfl) T.z_range (pa_cons pe_int pa_nil)) (pg_name (i := 3) nd rfl (Or.inl rfl)) (pss_cons (ps_set (i := 4) nd rfl (Or.inl rfl) (pe_def D_elders (hr.mono (by decide)) (by rfl) (pa_cons (pv 0) pa_nil)))
      (pss_cons (ps_if (PW.pt (pw_or (pt_not (pt_val (pe_callB (k_isi (K := K) rfl) (by rfl) T.z_isinstance (by decide +kernel) (pa_cons (pv 4) (pa_cons (pe_bltn (v := .ty "list") (by rfl) T.z_list (by decide +kernel) rfl) pa_nil))))) (pw_or (pt_cmpR (k_ne (K := K) rfl hu) (pv 4) (pv 2) (nomark _)) (pw_or1 (pt_cmpR (k_ne (K := K) rfl hu) (pe_defN0 (ks := ["name"]) D_elders (fun us ws => us ++ ws) (fun r z => r.append z) (hr.mono (by decide)) (by rfl) (pk_cons (pv 0) pk_nil) (fun _ _ _ _ _ _ us ws h0 hl => match us, ws, h0, hl with | [], [_], _, _ => rfl)) (pv 2) (nomark _)))))) (pss_one (ps_ret pe_bl)) pss_nil)
      (pss_one (ps_expr (k_bm (K := K) rfl PySem.F.plainAttrs_list PySem.F.slot_list_append PySem.F.type_list_append mt_append (pv 4) (pa_cons pe_str pa_nil)))))))
      (pss_cons (ps_set (i := 5) nd rfl (Or.inl rfl) (pe_ix (k_ix (K := K) rfl) (pe_op uop_add (pe_lst (pa_cons pe_non pa_nil)) (pv 2)) (pe_op op_sub (pe_callB (k_len (K := K) rfl) (by rfl) T.z_len (by decide +kernel) (pa_cons (pv 2) pa_nil)) pe_int) (fun _ _ => rfl)))
      (pss_cons (ps_if (PW.pt (pw_or (pt_cmpR (k_ne (K := K) rfl hu) (pe_def D_elder_of (hr.mono (by decide)) (by rfl) (pa_cons (pv 0) pa_nil)) (pv 5) (nomark _)) (pw_or1 (pt_cmpR (k_ne (K := K) rfl hu) (pe_defN0 (ks := ["name"]) D_elder_of (fun us ws => us ++ ws) (fun r z => r.append z) (hr.mono (by decide)) (by rfl) (pk_cons (pv 0) pk_nil) (fun _ _ _ _ _ _ us ws h0 hl => match us, ws, h0, hl with | [], [_], _, _ => rfl)) (pv 5) (nomark _))))) (pss_one (ps_ret pe_bl)) pss_nil)
      (pss_one (ps_ret (pe_and (pe_cmpR (k_eq (K := K) rfl hu) (pe_def D_last_of (hr.mono (by decide)) (by rfl) (pa_cons (pv 0) pa_nil)) (pe_ix (k_ix (K := K) rfl) (pv 1) (pe_un un_neg pe_int) (fun _ _ => rfl)) (nomark _)) (pe_one (pe_cmpR (k_eq (K := K) rfl hu) (pe_defN0 (ks := ["name"]) D_last_of (fun us ws => us ++ ws) (fun r z => r.append z) (hr.mono (by decide)) (by rfl) (pk_cons (pv 0) pk_nil) (fun _ _ _ _ _ _ us ws h0 hl => match us, ws, h0, hl with | [], [_], _, _ => rfl)) (pe_ix (k_ix (K := K) rfl) (pv 1) (pe_un un_neg pe_int) (fun _ _ => rfl)) (nomark _))))))))))), ?_⟩
  rintro B vs _ Q e r ⟨l, rfl, hl, hn, h100⟩ q
  obtain ⟨v, rfl, rv⟩ := r.one
  have hz : (Txt.join LM.dotS l).length ≤ 1000 := by
    have := join_len hl
    omega
  have hS : domS [.str (Txt.join LM.dotS l)] := ⟨_, rfl, by omega⟩
  have hsp := split_join hl hn
  refine x_asg (ed_is (ed_split (ed_var rfl rv) (ea_cons (ed_c (.str LM.dotS)) ea_nil) (by decide +kernel) (by omega)) (by rw [hsp])) e fun v2 B2 H2 p2 r2 => ?_
  have e3 : ∀ i : Nat, ((1 : Int) + (i : Int)) = ((i + 1 : Nat) : Int) := fun i => by omega
  refine x_asg (ed_is (ed_map (fun c => match c with | .int i => .str (Txt.join LM.dotS (l.take i.toNat)) | _ => .non)
    (es_rng2 (ea_cons (ed_c (.int 1)) (ea_cons (ed_op (ed_cb (ea_cons (ed_var rfl r2) ea_nil) rc_lenL) (ed_c (.int 1)) (rd_addI _ _)) ea_nil)) (by rw [strs_len]; omega)) (by simp [rngD, strs_len]; omega) (fun _ => rfl)
    (fun d hd v' B' e' r' => ?_)) (d := .lst (strsD (eldersL l))) ?_) p2.x fun v3 B3 H3 p3 r3 => ?_
  · unfold rngD at hd
    obtain ⟨i, hi, rfl⟩ := List.mem_map.mp hd
    show ED K _ _ B' (.str (Txt.join LM.dotS (l.take ((1 : Int) + (i : Int)).toNat)))
    rw [e3] at r' ⊢
    rw [Int.toNat_natCast]
    refine ed_bm (ed_c (.str LM.dotS)) rfl (ea_cons (ed_is (ed_slL (ed_var rfl (r2.mono e')) eo_none (eo_some (ed_var rfl r'))) (d := .lst (strsD (l.take (i + 1)))) ?_) ea_nil) (rm_join ?_)
    · unfold strsD
      rw [cutD_take, List.map_take]
    · have h4 : LM.dotS.length = 1 := by decide +kernel
      have h5 := sum_le (l := l.take (i + 1)) (fun y hy => hl y (List.mem_of_mem_take hy))
      have h6 : (l.take (i + 1)).length ≤ l.length := by
        rw [List.length_take]
        omega
      rw [h4]
      omega
  · unfold eldersL strsD rngD
    rw [List.map_map, List.map_map, List.length_map]
    have : ((l.length : Int) + 1 - 1).toNat = l.length := by omega
    rw [this]
    refine congrArg Dt.lst (List.map_congr_left fun i _ => ?_)
    show Dt.str (Txt.join LM.dotS (l.take ((1 : Int) + (i : Int)).toNat)) = _
    rw [e3, Int.toNat_natCast]
    rfl
  · have hq : ∀ {B' H'}, Pu B3 H3 B' H' → Pu B H B' H' := fun z => (p2.trans p3).trans z
    have ee : strsD (eldersS (txt (hd0 [Dt.str (Txt.join LM.dotS l)]))) = strsD (eldersL l) := congrArg strsD (elders_join hl hn)
    have hlen : (strsD (eldersL l)).length = l.length := by
      unfold strsD eldersL
      simp
    have hok : ∀ ys : List Str, okD 8 (.lst (strsD ys)) = true := fun ys => by
      show okDs 7 (strsD ys) = true
      rw [okDs_all]
      unfold strsD
      rw [List.all_map]
      exact List.all_eq_true.mpr fun _ _ => rfl
    refine x_for (es_rng1 (K := K) (ea_cons (ed_c (.int 2)) ea_nil) (by decide)) p3.x fun B4 H4 p4 => ⟨fun i σ' B' H' => ∃ y3 y4, σ' = [some v, some v2, some v3, y3, y4, none, none] ∧ Pu B4 H4 B' H',
      ⟨none, none, rfl, Pu.refl p4.x⟩, fun i σ' B' H' ⟨_, _, _, z⟩ => ⟨z.b, z.x⟩, ?_, ?_⟩
    · rintro i d σ' B' H' hi ⟨y3, y4, rfl, pz⟩ v5 B5 H5 p5 r5
      have rv5 := rv.mono (((p2.b.trans p3.b).trans p4.b).trans (pz.b.trans p5.b))
      have r35 := r3.mono ((p4.b.trans pz.b).trans p5.b)
      refine x_asgL (ds := strsD (eldersL l)) (el_is (el_call1 (ea_cons (ed_var rfl rv5) ea_nil) hS) ee) p5.x fun p xs B6 H6 p6 hn6 hb6 r6 => ?_
      have rf : Rp K B6 (.ref p) (.lst (strsD (eldersL l))) := .lst hb6 r6
      have r36 := r35.mono p6.b
      refine x_when (k := false) (et_is (et_or (k := false) (et_is (et_not (et_B (ed_cb (ea_cons (ed_var rfl rf) (ea_cons (ed_c (.ty _)) ea_nil)) (rc_isi_lst rfl)))) rfl) fun _ => et_or (k := false) (et_is (et_test (ed_op (ed_var rfl rf) (ed_var rfl r36) (rd_ne (hok _) (hok _)))) (congrArg Bool.not (eqD_refl _))) fun _ =>
        et_is (et_test (ed_op (el_callN (es := [.str (Txt.join LM.dotS l)]) (gD := fun us ws => us ++ ws) ea_nil (ea_cons (ed_var rfl (rv5.mono p6.b)) ea_nil) rfl rfl (fun B vs zs a b => a.app b) hS).ed (ed_var rfl r36) (rd_ne (hok _) (hok _)))) (l := false) ?_) rfl) p6.x (fun hk => nomatch hk) (fun _ B7 H7 p7 => ?_)
      · rw [show strsD (eldersS (txt (hd0 ([] ++ [Dt.str (Txt.join LM.dotS l)])))) = strsD (eldersL l) from ee]
        exact congrArg Bool.not (eqD_refl _)
      · refine x_appE (K := K) (d := .str "x") rfl (p7.b _ _ hb6) (by rw [r6.len, hlen]; omega) (ed_c (.str "x")) p7.x fun v8 B8 H8 p8 => ?_
        exact ⟨B5, some v5, some (.ref p), rfl, (pz.trans p5).trans (((p6.trans p7).trans p8).forget p5.x hn6)⟩
    · rintro σ' B' H' ⟨y3, y4, rfl, pz⟩
      have rv5 := rv.mono (((p2.b.trans p3.b).trans p4.b).trans pz.b)
      have r35 := r3.mono (p4.b.trans pz.b)
      have r25 := r2.mono ((p3.b.trans p4.b).trans pz.b)
      have oe : ∀ z : Str, okD 8 (elderD z) = true := fun z => by unfold elderD; split <;> rfl
      refine x_asg (ed_op (ed_op (ed_lst (ea_cons (ed_c .non) ea_nil) (by simp)) (ed_var rfl r35) (rd_cat (by rw [hlen]; simp; omega))) (ed_op (ed_cb (ea_cons (ed_var rfl r35) ea_nil) rc_lenL) (ed_c (.int 1)) (rd_sub _ _)) (rd_ixL (elder_at hl hn))) pz.x fun v6 B6 H6 p6 r6 => ?_
      have rv6 := rv5.mono p6.b
      refine x_when (k := false) (et_is (et_or (k := false) (et_is (et_test (ed_op (ed_call1 (ea_cons (ed_var rfl rv6) ea_nil) hS) (ed_var rfl r6) (rd_ne (oe _) (oe _)))) (congrArg Bool.not (eqD_refl _))) fun _ =>
        et_is (et_test (ed_op (ed_callN (es := [.str (Txt.join LM.dotS l)]) (gD := fun us ws => us ++ ws) ea_nil (ea_cons (ed_var rfl rv6) ea_nil) rfl rfl (fun B vs zs a b => a.app b) hS) (ed_var rfl r6) (rd_ne (oe _) (oe _)))) (l := false) (congrArg Bool.not (eqD_refl _))) rfl) p6.x (fun hk => nomatch hk) (fun _ B7 H7 p7 => ?_)
      have rv7 := rv6.mono p7.b
      have r27 := r25.mono (p6.b.trans p7.b)
      refine x_ret (d := .bl true) (ed_is (ed_andV (k := true) (ed_is (ed_op (ed_call1 (ea_cons (ed_var rfl rv7) ea_nil) hS) (ed_op (ed_var rfl r27) (ed_un (ed_c (.int 1)) (ru_neg _)) (rd_ixL (last_at hl hn))) (rd_eq rfl rfl)) (congrArg Dt.bl (eqD_refl _))) fun _ =>
        ed_is (ed_op (ed_callN (es := [.str (Txt.join LM.dotS l)]) (gD := fun us ws => us ++ ws) ea_nil (ea_cons (ed_var rfl rv7) ea_nil) rfl rfl (fun B vs zs a b => a.app b) hS) (ed_op (ed_var rfl r27) (ed_un (ed_c (.int 1)) (ru_neg _)) (rd_ixL (last_at hl hn))) (rd_eq rfl rfl)) (d := .bl true) (congrArg Dt.bl (eqD_refl _))) rfl) p7.x fun v8 B8 H8 p8 r8 => ?_
      exact q v8 B8 H8 (hq ((((p4.trans pz).trans p6).trans p7).trans p8)) r8
def signs9 : List Str := ["A", "1", " ", ".", "-", "_", "~", "z", "b"]
theorem sign_at (i : Int) (h0 : 0 ≤ i) (h1 : i < 9) : atI (strsD signs9) i = some (.str (signs9.getD i.toNat "")) := by
  have e : (i.toNat : Int) = i := by omega
  have := atI_nat (xs := strsD signs9) (j := i.toNat) (v := .str (signs9.getD i.toNat "")) (by
    unfold strsD
    rw [List.getElem?_map, List.getD_eq_getElem?_getD]
    have hl : i.toNat < signs9.length := by
      show i.toNat < 9
      omega
    rw [List.getElem?_eq_getElem hl]
    rfl)
  rwa [e] at this
theorem sign_len (i : Nat) : (signs9.getD i "").length ≤ 1 := by
  by_cases h : i < 9
  · have : ∀ j : _root_.Fin 9, (signs9.getD j.val "").length ≤ 1 := by decide +kernel
    exact this ⟨i, h⟩
  · rw [List.getD_eq_getElem?_getD, List.getElem?_eq_none (by show 9 ≤ i; omega)]
    decide +kernel
def bentF (z : Str) (n : Int) : List Str × Int :=
  let at_ := n.fmod ((z.length : Int) + 1)
  let n1 := n.fdiv ((z.length : Int) + 1)
  let sg := signs9.getD (n1.fmod 9).toNat ""
  let left := cutS z none (some at_)
  ([left ++ sg ++ cutS z (some at_) none, left ++ cutS z (some (at_ + 1)) none, left ++ sg ++ cutS z (some (at_ + 1)) none] ++ [z ++ ".", "." ++ z, z ++ z, z ++ ".a"]
    ++ [z ++ ".abcdefghi", z ++ " ", Txt.replace z "." ""], n1.fdiv 9)
theorem bent_len (z : Str) (n : Int) (hz : z.length ≤ 1000) : ∀ y ∈ (bentF z n).1, y.length ≤ 100000 := by
  intro y hy
  have l1 : ∀ lo hi, (cutS z lo hi).length ≤ z.length := cutS_len z
  have l2 := sign_len (((n.fdiv ((z.length : Int) + 1)).fmod 9).toNat)
  have l3 := TK.replace_len z "." ""
  have c1 : ("." : Str).length = 1 := by decide +kernel
  have c2 : (".a" : Str).length = 2 := by decide +kernel
  have c3 : (".abcdefghi" : Str).length = 10 := by decide +kernel
  have c4 : (" " : Str).length = 1 := by decide +kernel
  have c5 : ("" : Str).length = 0 := by decide +kernel
  have a1 := l1 none (some (n.fmod ((z.length : Int) + 1)))
  have a2 := l1 (some (n.fmod ((z.length : Int) + 1))) none
  have a3 := l1 (some (n.fmod ((z.length : Int) + 1) + 1)) none
  rw [c5] at l3
  simp only [bentF, List.mem_append, List.mem_cons, List.not_mem_nil, or_false] at hy
  rcases hy with ((rfl | rfl | rfl) | (rfl | rfl | rfl | rfl)) | (rfl | rfl | rfl) <;> (try simp only [add_len, c1, c2, c3, c4]) <;> omega
def bentD (ds : List Dt) (n : Int) : Dt × Int := match ds with
  | [.str z] => (.lst (strsD (bentF z n).1), (bentF z n).2)
  | _ => (.non, n)
theorem ok_bent {f : Addr} {fd : FuncData} (F : Fun K "_law_bent" "_law_bent" s_law_bent f fd) (T : Glb mg) (D_law_take : DefK P w K mg base CX0 "_law_take" s_law_take 1 ["_law_pile", "_law_size"] (spTake K)) :
    FnOk P w K mg base CX0 2 f fd ["_law_pile", "_law_name_told"] (PP K (fun ds => ∃ z, ds = [.str z] ∧ z.length ≤ 1000) bentD) := by
  refine ok_pp F sc_law_bent (fun ds ⟨k, h, _⟩ => by rw [h]; rfl) (fun cdv A outer s H E hr => ?_)
  have hu := hr.units
  have nd := sc_law_bent.nd
  refine ⟨_, (pss_cons (ps_set (i := 2) nd rfl (Or.inl rfl) (pe_def D_law_take (hr.mono (by decide)) (by rfl) (pa_cons (pv 0) (pa_cons (pe_op uop_add (pe_callB (k_len (K := K) rfl) (by rfl) T.z_len (by decide +kernel) (pa_cons (pv 1) pa_nil)) pe_int) pa_nil))))
      (pss_cons (ps_set (i := 3) nd rfl (Or.inl rfl) (pe_ix (k_ix (K := K) rfl) (pe_lst (pa_cons pe_str (pa_cons pe_str (pa_cons pe_str (pa_cons pe_str (pa_cons pe_str (pa_cons pe_str (pa_cons pe_str (pa_cons pe_str (pa_cons pe_str pa_nil)))))))))) (pe_def D_law_take (hr.mono (by decide)) (by rfl) (pa_cons (pv 0) (pa_cons pe_int pa_nil))) (fun _ _ => rfl)))
      (pss_cons (ps_set (i := 4) nd rfl (Or.inl rfl) (pe_slice (k_sl (K := K) rfl) (pv 1) po_none (po_some (pv 2))))
      (pss_cons (ps_set (i := 5) nd rfl (Or.inl rfl) (pe_lst (pa_cons (pe_op uop_add (pe_op uop_add (pv 4) (pv 3)) (pe_slice (k_sl (K := K) rfl) (pv 1) (po_some (pv 2)) po_none)) (pa_cons (pe_op uop_add (pv 4) (pe_slice (k_sl (K := K) rfl) (pv 1) (po_some (pe_op uop_add (pv 2) pe_int)) po_none)) (pa_cons (pe_op uop_add (pe_op uop_add (pv 4) (pv 3)) (pe_slice (k_sl (K := K) rfl) (pv 1) (po_some (pe_op uop_add (pv 2) pe_int)) po_none)) pa_nil)))))
      (pss_cons (ps_set (i := 5) nd rfl (Or.inl rfl) (pe_op uop_add (pv 5) (pe_lst (pa_cons (pe_op uop_add (pv 1) pe_str) (pa_cons (pe_op uop_add pe_str (pv 1)) (pa_cons (pe_op uop_add (pv 1) (pv 1)) (pa_cons (pe_op uop_add (pv 1) pe_str) pa_nil)))))))
      (pss_one (ps_ret (pe_op uop_add (pv 5) (pe_lst (pa_bump uop_add (pv 1) (pat_consE (CwR.PET.of (pe_op uop_add (pv 1) pe_str)) (pat_consE (CwR.pet_replC (pv 1)) (pat_of pa_nil))))))))))))), ?_⟩
  rintro p n B ws _ Q l r ⟨z, rfl, hz⟩ q
  obtain ⟨v, rfl, rv⟩ := r.one
  have l1 : ∀ lo hi, (cutS z lo hi).length ≤ z.length := cutS_len z
  have c1 : ("." : Str).length = 1 := by decide +kernel
  have c2 : (".a" : Str).length = 2 := by decide +kernel
  have c3 : (".abcdefghi" : Str).length = 10 := by decide +kernel
  have c4 : (" " : Str).length = 1 := by decide +kernel
  have c5 : ("" : Str).length = 0 := by decide +kernel
  refine y_asg (ep_take rfl (epa_cons (ep_of (ed_op (ed_cb (ea_cons (ed_var rfl rv) ea_nil) (rc_lenS (by omega))) (ed_c (.int 1)) (rd_addI _ _))) epa_nil) (by omega) (by omega)) l fun v2 B2 H2 m2 l2 r2 => ?_
  have rv2 := rv.mono m2.b
  have h9 := fmod_lt (a := n.fdiv ((z.length : Int) + 1)) (b := 9) (by decide)
  have l4 := sign_len (((n.fdiv ((z.length : Int) + 1)).fmod 9).toNat)
  refine y_asg (ep_op (ep_of (ed_is (ed_lst (ea_cons (ed_c (.str _)) (ea_cons (ed_c (.str _)) (ea_cons (ed_c (.str _)) (ea_cons (ed_c (.str _)) (ea_cons (ed_c (.str _)) (ea_cons (ed_c (.str _)) (ea_cons (ed_c (.str _)) (ea_cons (ed_c (.str _)) (ea_cons (ed_c (.str _)) ea_nil))))))))) (by simp)) (d := .lst (strsD signs9)) rfl)) (ep_takeC rfl) (rd_ixL (sign_at _ h9.1 h9.2))) l2 fun v3 B3 H3 m3 l3 r3 => ?_
  have rv3 := rv2.mono m3.b
  have r23 := r2.mono m3.b
  refine x_asg (ed_slS (ed_var rfl rv3) eo_none (eo_some (ed_var rfl r23)) (by omega)) l3.x fun v4 B4 H4 p4 r4 => ?_
  have rv4 := rv3.mono p4.b
  have r24 := r23.mono p4.b
  have r34 := r3.mono p4.b
  generalize hsg : signs9.getD ((n.fdiv ((z.length : Int) + 1)).fmod 9).toNat "" = sg at r34 l4
  generalize hat : n.fmod ((z.length : Int) + 1) = at_ at r24 r4
  have a1 := l1 none (some at_)
  have a2 := l1 (some at_) none
  have a3 := l1 (some (at_ + 1)) none
  have sl1 := ed_slS (K := K) (tl := tPart (tVar 2)) (th := tNoPart) (ed_var (i := 1) (σ := ((((L2.start ["_law_pile", "_law_name_told", "_law_at", "_law_sign", "_law_left", "_law_some"] [.ref p, v]).set 2 (some v2)).set 3 (some v3)).set 4 (some v4))) rfl rv4) (eo_some (ed_var rfl r24)) eo_none (by omega)
  have sl2 := ed_slS (K := K) (tl := tPart (tOp uAdd (tVar 2) (tC (.int 1)))) (th := tNoPart) (ed_var (i := 1) (σ := ((((L2.start ["_law_pile", "_law_name_told", "_law_at", "_law_sign", "_law_left", "_law_some"] [.ref p, v]).set 2 (some v2)).set 3 (some v3)).set 4 (some v4))) rfl rv4) (eo_some (ed_op (ed_var rfl r24) (ed_c (.int 1)) (rd_addI _ _))) eo_none (by omega)
  refine x_asg (ed_is (ed_lst (ea_cons (ed_op (ed_op (ed_var rfl r4) (ed_var rfl r34) (rd_addS (by omega))) sl1 (rd_addS (by rw [add_len]; omega)))
    (ea_cons (ed_op (ed_var rfl r4) sl2 (rd_addS (by omega))) (ea_cons (ed_op (ed_op (ed_var rfl r4) (ed_var rfl r34) (rd_addS (by omega))) sl2 (rd_addS (by rw [add_len]; omega))) ea_nil))) (by simp))
    (d := .lst (strsD [cutS z none (some at_) ++ sg ++ cutS z (some at_) none, cutS z none (some at_) ++ cutS z (some (at_ + 1)) none, cutS z none (some at_) ++ sg ++ cutS z (some (at_ + 1)) none])) rfl) p4.x fun v5 B5 H5 p5 r5 => ?_
  have rv5 := rv4.mono p5.b
  refine x_asg (ed_is (ed_op (ed_var rfl r5) (ed_lst (ea_cons (ed_op (ed_var rfl rv5) (ed_c (.str ".")) (rd_addS (by omega))) (ea_cons (ed_op (ed_c (.str ".")) (ed_var rfl rv5) (rd_addS (by omega))) (ea_cons (ed_op (ed_var rfl rv5) (ed_var rfl rv5) (rd_addS (by omega))) (ea_cons (ed_op (ed_var rfl rv5) (ed_c (.str ".a")) (rd_addS (by omega))) ea_nil)))) (by simp)) (rd_cat (by simp [strsD])))
    (d := .lst (strsD ([cutS z none (some at_) ++ sg ++ cutS z (some at_) none, cutS z none (some at_) ++ cutS z (some (at_ + 1)) none, cutS z none (some at_) ++ sg ++ cutS z (some (at_ + 1)) none] ++ [z ++ ".", "." ++ z, z ++ z, z ++ ".a"]))) rfl) p5.x fun v6 B6 H6 p6 r6 => ?_
  have rv6 := rv5.mono p6.b
  have pp := (p4.trans p5).trans p6
  refine x_ret (d := .lst (strsD (bentF z n).1)) (ed_is (ed_op (ed_var rfl r6) (ed_lst (ea_cons (ed_op (ed_var rfl rv6) (ed_c (.str ".abcdefghi")) (rd_addS (by omega))) (ea_cons (ed_op (ed_var rfl rv6) (ed_c (.str " ")) (rd_addS (by omega))) (ea_cons (ed_repl (ed_var rfl rv6) (by rw [c5]; omega)) ea_nil))) (by simp)) (rd_cat (by simp [strsD]))) ?_) p6.x fun v7 B7 H7 p7 r7 => ?_
  · subst hsg
    subst hat
    rfl
  · exact q v7 B7 H7 ((m2.trans m3).trans (l3.mv (pp.trans p7))) (l3.pu (pp.trans p7)) r7
/-! ### the law -/
def spLaw (K : PySem.W.Frag) : Sp := fun vs H Q _ => ∃ (a : Addr) (ns : List Int), vs = [.ref a] ∧ SqL K H a (ns.map V.int) ∧ ns.length ≤ 63 ∧ ∀ H', Q (.bl true) H'
theorem ok_law {f : Addr} {fd : FuncData} (F : Fun K "law" "law" s_law f fd) (T : Glb mg)
    (D_law_truths_good : DefK P w K mg base CX0 "_law_truths_good" s_law_truths_good 3 ["_law_thing_told"] (PF K dom1 (fun _ => .bl true))) (D_law_cell : DefK P w K mg base CX0 "_law_cell" s_law_cell 2 ["_law_script", "_law_k"] (spCell K))
    (D_law_name_drawn : DefK P w K mg base CX0 "_law_name_drawn" s_law_name_drawn 3 ["_law_pile", "_law_most"] (spName K)) (D_law_parts_good : DefK P w K mg base CX0 "_law_parts_good" s_law_parts_good 2 ["_law_name_told"] (PF K domL (fun _ => .bl true)))
    (D_law_bent : DefK P w K mg base CX0 "_law_bent" s_law_bent 2 ["_law_pile", "_law_name_told"] (PP K (fun ds => ∃ z, ds = [.str z] ∧ z.length ≤ 1000) bentD)) :
    FnOk P w K mg base CX0 4 f fd ["_law_script"] (spLaw K) := by
  refine F.ok sc_law (fun vs H Q E h => ?_) (fun cdv A outer s H vs Q E hr h => ?_)
  · obtain ⟨a, ns, rfl, _⟩ := h
    rfl
  · obtain ⟨a, ns, rfl, hS, hlen, q⟩ := h
    have hu := hr.units
    have nd := sc_law.nd
    refine ⟨_, (pss_cons (ps_set (i := 1) nd rfl (Or.inl rfl) (pe_lst (pa_cons pe_str (pa_cons pe_str (pa_cons pe_str (pa_cons pe_str (pa_cons pe_str (pa_cons pe_str (pa_cons pe_str (pa_cons pe_str (pa_cons pe_str (pa_cons pe_str (pa_cons pe_str (pa_cons pe_str (pa_cons pe_str pa_nil)))))))))))))))
      (pss_cons (ps_for PassesOwn.never rfl (k_pi_list (K := K) rfl (pe_op uop_add (pv 1) (pe_lst (pa_cons pe_non (pa_cons pe_bl (pa_cons pe_int (pa_cons (pe_tup (pa_cons pe_str pa_nil)) (pa_cons (pe_lst (pa_cons pe_str pa_nil)) (pa_cons (pe_tup pa_nil) (pa_cons (pe_lst pa_nil) (pa_cons pe_int pa_nil))))))))))) (pg_name (i := 2) nd rfl (Or.inl rfl)) (pss_one (ps_if (pt_not (pt_val (pe_def D_law_truths_good (hr.mono (by decide)) (by rfl) (pa_cons (pv 2) pa_nil)))) (pss_one (ps_ret pe_bl)) pss_nil)))
      (pss_cons (ps_for PassesOwn.never rfl (pi_range1 (by rfl) T.z_range (pa_cons pe_int pa_nil)) (pg_name (i := 3) nd rfl (Or.inl rfl)) (pss_cons (ps_set (i := 4) nd rfl (Or.inl rfl) (pe_lst (pa_cons (pe_def D_law_cell (hr.mono (by decide)) (by rfl) (pa_cons (pv 0) (pa_cons (pv 3) pa_nil))) pa_nil)))
      (pss_cons (ps_set (i := 5) nd rfl (Or.inl rfl) (pe_def D_law_name_drawn (hr.mono (by decide)) (by rfl) (pa_cons (pv 4) (pa_cons pe_int pa_nil))))
      (pss_cons (ps_if (pt_not (pt_val (pe_def D_law_parts_good (hr.mono (by decide)) (by rfl) (pa_cons (pv 5) pa_nil)))) (pss_one (ps_ret pe_bl)) pss_nil)
      (pss_one (ps_for PassesOwn.never rfl (k_pi_list (K := K) rfl (pe_op uop_add (pe_lst (pa_cons (pv 5) (pa_cons (pe_ix (k_ix (K := K) rfl) (k_bm (K := K) rfl PySem.F.plainAttrs_str PySem.F.slot_str_split PySem.F.type_str_split umt_split (pv 5) (pa_cons pe_str pa_nil)) pe_int (fun _ _ => rfl)) pa_nil))) (pe_def D_law_bent (hr.mono (by decide)) (by rfl) (pa_cons (pv 4) (pa_cons (pv 5) pa_nil))))) (pg_name (i := 6) nd rfl (Or.inl rfl)) (pss_one (ps_if (pt_not (pt_val (pe_def D_law_truths_good (hr.mono (by decide)) (by rfl) (pa_cons (pv 6) pa_nil)))) (pss_one (ps_ret pe_bl)) pss_nil))))))))
      (pss_one (ps_ret pe_bl))))), ?_⟩
    refine x_asg (K := K) (ed_lst (ea_cons (ed_c (.str _)) (ea_cons (ed_c (.str _)) (ea_cons (ed_c (.str _)) (ea_cons (ed_c (.str _)) (ea_cons (ed_c (.str _)) (ea_cons (ed_c (.str _)) (ea_cons (ed_c (.str _)) (ea_cons (ed_c (.str _)) (ea_cons (ed_c (.str _)) (ea_cons (ed_c (.str _)) (ea_cons (ed_c (.str _)) (ea_cons (ed_c (.str _)) (ea_cons (ed_c (.str _)) ea_nil))))))))))))) (by simp)) (Same.refl H) fun v1 B1 H1 p1 r1 => ?_
    refine x_for (es_list (ed_op (ed_var rfl r1) (ed_lst (ea_cons (ed_c .non) (ea_cons (ed_c (.bl _)) (ea_cons (ed_c (.int _)) (ea_cons (ed_tup (ea_cons (ed_c (.str _)) ea_nil) (by simp)) (ea_cons (ed_lst (ea_cons (ed_c (.str _)) ea_nil) (by simp)) (ea_cons (ed_tup ea_nil (by simp)) (ea_cons (ed_lst ea_nil (by simp)) (ea_cons (ed_c (.int _)) ea_nil)))))))) (by simp)) (rd_cat (by simp)))) p1.x fun B2 H2 p2 =>
      ⟨fun i σ' B' H' => ∃ y, σ' = [some (.ref a), some v1, y, none, none, none, none] ∧ Pu B2 H2 B' H', ⟨none, rfl, Pu.refl p2.x⟩, fun i σ' B' H' ⟨_, _, z⟩ => ⟨z.b, z.x⟩, ?_, ?_⟩
    · rintro i d σ' B' H' hi ⟨y, rfl, pz⟩ v3 B3 H3 p3 r3
      have hd : dom1 [d] := dom1_of (all_get (p := domB) (by decide +kernel) hi)
      refine x_whenE (k := false) (et_is (et_not (et_B (k := true) (ed_call1 (ea_cons (ed_var rfl r3) ea_nil) hd))) rfl) p3.x (fun hk => nomatch hk) (fun _ B4 H4 p4 => ?_)
      exact ⟨B4, some v3, rfl, (pz.trans p3).trans p4⟩
    · rintro σ' B' H' ⟨y, rfl, pz⟩
      refine x_for (es_rng1 (K := K) (ea_cons (ed_c (.int 5)) ea_nil) (by decide)) pz.x fun B3 H3 p3 =>
        ⟨fun i σ' B' H' => ∃ y2 y3 y4 y5 y6, σ' = [some (.ref a), some v1, y2, y3, y4, y5, y6] ∧ Pu B3 H3 B' H', ⟨y, none, none, none, none, rfl, Pu.refl p3.x⟩, fun i σ' B' H' ⟨_, _, _, _, _, _, z⟩ => ⟨z.b, z.x⟩, ?_, ?_⟩
      · rintro i d σ' B' H' hi ⟨y2, y3, y4, y5, y6, rfl, pt⟩ v4 B4 H4 p4 r4
        have hi5 : i < 5 := by
          have := (List.getElem?_eq_some_iff.mp hi).1
          simpa [rngD] using this
        have hd : d = .int (0 + (i : Int)) := by
          unfold rngD at hi
          rw [List.getElem?_map, List.getElem?_eq_getElem (by simpa using hi5)] at hi
          simpa using hi.symm
        subst hd
        cases r4
        have hS4 : SqL K B4 a (ns.map V.int) := p4.b.seq (pt.b.seq (p3.b.seq (pz.b.seq (p2.b.seq (p1.b.seq hS)))))
        -- the pile
        refine x_asgH (K := K) (ds := [.int (cellF ns (0 + (i : Int)))]) (el_lst (ea_cons (fun B5 H5 e5 e6 Q5 q5 => ?_) ea_nil) (by simp)) p4.x fun pl xs B5 H5 p5 hn5 hb5 hh5 r5 => ?_
        · exact ⟨.ref a, rfl, .int (0 + (i : Int)), rfl, a, ns, 0 + (i : Int), B5, rfl, e6, e5.seq hS4, by omega, by omega, fun B6 H6 p6 => q5 _ B6 H6 p6 (.int _)⟩
        · obtain ⟨w1, rfl, r51⟩ := r5.one
          cases r51
          have l5 : Pl pl (cellF ns (0 + (i : Int))) B5 H5 := ⟨p5.x, hb5, hh5⟩
          generalize cellF ns (0 + (i : Int)) = n0 at l5
          refine y_asg (ep_call rfl (epa_cons (ep_of (ed_c (.int 4))) epa_nil) ⟨4, rfl, by decide, by decide⟩) l5 fun v6 B6 H6 m6 l6 r6 => ?_
          have hpa := parts_all 4 n0
          have hpl := parts_len 4 n0 (by decide)
          have hpn : (partsF 4 n0).1 ≠ [] := fun z => by rw [z] at hpl; simp at hpl
          have r6' : Rp K B6 v6 (.str (Txt.join LM.dotS (partsF 4 n0).1)) := r6
          have hjl := join_len hpa
          refine x_when (k := false) (et_is (et_not (et_B (k := true) (ed_call1 (ea_cons (ed_var rfl r6') ea_nil) ⟨_, rfl, hpa, hpn, by omega⟩))) rfl) l6.x (fun hk => nomatch hk) (fun _ B7 H7 p7 => ?_)
          have r7 := r6'.mono p7.b
          have l7 := l6.pu p7
          have hsp := split_join hpa hpn
          have m7 := m6.trans (l6.mv p7)
          have hat : atI (strsD (partsF 4 n0).1) 0 = some (.str ((partsF 4 n0).1.headD "")) := by
            cases e : (partsF 4 n0).1 with
            | nil => exact absurd e hpn
            | cons x r => exact atI_nat (j := 0) rfl
          have hd1 : domB (.str ((partsF 4 n0).1.headD "")) = true := by
            cases e : (partsF 4 n0).1 with
            | nil => exact absurd e hpn
            | cons x r =>
              have := (partS_len (hpa x (by rw [e]; exact List.mem_cons_self ..))).2
              exact decide_eq_true (p := x.length ≤ 100000) (by omega)
          refine y_forE (eps_list (ep_op (ep_of (ed_lst (ea_cons (ed_var rfl r7) (ea_cons (ed_op (ed_is (ed_split (ed_var rfl r7) (ea_cons (ed_c (.str LM.dotS)) ea_nil) (by decide +kernel) (by omega)) (by rw [hsp])) (ed_c (.int 0)) (rd_ixL hat)) ea_nil)) (by simp))) (ep_call rfl (epa_cons (ep_of (ed_var rfl r7)) epa_nil) ⟨_, rfl, by omega⟩) (rd_cat (by simp [strsD, bentF])))) l7 fun B8 H8 m8 l8 =>
            ⟨fun _ σ' B' H' => ∃ y6, σ' = [some (.ref a), some v1, y2, some (.int (0 + (i : Int))), some (.ref pl), some v6, y6] ∧ Pu B8 H8 B' H', ⟨y6, rfl, Pu.refl l8.x⟩, fun i σ' B' H' ⟨_, _, z⟩ => ⟨z.b, z.x⟩, ?_, ?_⟩
          · rintro k d σ' B' H' hi ⟨y6, rfl, pz8⟩ v9 B9 H9 p9 r9
            have hall : ([Dt.str (Txt.join LM.dotS (partsF 4 n0).1), .str ((partsF 4 n0).1.headD "")] ++ strsD (bentF (Txt.join LM.dotS (partsF 4 n0).1) (partsF 4 n0).2).1).all domB = true := by
              rw [List.all_append, List.all_cons, List.all_cons, hd1]
              rw [show domB (.str (Txt.join LM.dotS (partsF 4 n0).1)) = true from decide_eq_true (p := (Txt.join LM.dotS (partsF 4 n0).1).length ≤ 100000) (by omega)]
              have hb := bent_len (Txt.join LM.dotS (partsF 4 n0).1) (partsF 4 n0).2 (by omega)
              unfold strsD
              rw [List.all_map]
              exact List.all_eq_true.mpr fun y hy => decide_eq_true (p := y.length ≤ 100000) (hb y hy)
            have hd : dom1 [d] := dom1_of (all_get hall hi)
            refine x_whenE (k := false) (et_is (et_not (et_B (k := true) (ed_call1 (ea_cons (ed_var rfl r9) ea_nil) hd))) rfl) p9.x (fun hk => nomatch hk) (fun _ B10 H10 p10 => ?_)
            exact ⟨B10, some v9, rfl, (pz8.trans p9).trans p10⟩
          · rintro σ' B' H' ⟨y6, rfl, pz8⟩
            have m8' := m7.trans (m8.trans (l8.mv pz8))
            exact ⟨B', y2, some (.int (0 + (i : Int))), some (.ref pl), some v6, y6, rfl, (pt.trans p4).trans (p5.mvf hn5 m8')⟩
      · rintro σ' B' H' ⟨y2, y3, y4, y5, y6, rfl, pt⟩
        exact x_ret (K := K) (ed_c (.bl true)) pt.x fun v B4 H4 p4 r4 => by cases r4; exact q H4
end
theorem all_mk {l : PySem.W.OpenLaw} {w : World} {K : PySem.W.Frag} {h : Heap} {mg : Str → Option Value} {fa : Addr} (X : K.In h) (G : h.Ns mainGlobals mg) (hfa : mg "law" = some (.ref fa))
    {f0 : Addr} {od0 an0 : Option Addr} {sl0 : Array (Option Value)} {oc0 kV0 dc0 pm0 cd0 ct0 : Value} {f1 : Addr} {od1 an1 : Option Addr} {sl1 : Array (Option Value)} {oc1 kV1 dc1 pm1 cd1 ct1 : Value} {f2 : Addr} {od2 an2 : Option Addr} {sl2 : Array (Option Value)} {oc2 kV2 dc2 pm2 cd2 ct2 : Value} {f3 : Addr} {od3 an3 : Option Addr} {sl3 : Array (Option Value)} {oc3 kV3 dc3 pm3 cd3 ct3 : Value} {f4 : Addr} {od4 an4 : Option Addr} {sl4 : Array (Option Value)} {oc4 kV4 dc4 pm4 cd4 ct4 : Value} {f5 : Addr} {od5 an5 : Option Addr} {sl5 : Array (Option Value)} {oc5 kV5 dc5 pm5 cd5 ct5 : Value} {f6 : Addr} {od6 an6 : Option Addr} {sl6 : Array (Option Value)} {oc6 kV6 dc6 pm6 cd6 ct6 : Value} {f7 : Addr} {od7 an7 : Option Addr} {sl7 : Array (Option Value)} {oc7 kV7 dc7 pm7 cd7 ct7 : Value} {f8 : Addr} {od8 an8 : Option Addr} {sl8 : Array (Option Value)} {oc8 kV8 dc8 pm8 cd8 ct8 : Value} {f9 : Addr} {od9 an9 : Option Addr} {sl9 : Array (Option Value)} {oc9 kV9 dc9 pm9 cd9 ct9 : Value} {f10 : Addr} {od10 an10 : Option Addr} {sl10 : Array (Option Value)} {oc10 kV10 dc10 pm10 cd10 ct10 : Value} {f11 : Addr} {od11 an11 : Option Addr} {sl11 : Array (Option Value)} {oc11 kV11 dc11 pm11 cd11 ct11 : Value} {f12 : Addr} {od12 an12 : Option Addr} {sl12 : Array (Option Value)} {oc12 kV12 dc12 pm12 cd12 ct12 : Value} {f13 : Addr} {od13 an13 : Option Addr} {sl13 : Array (Option Value)} {oc13 kV13 dc13 pm13 cd13 ct13 : Value} {f14 : Addr} {od14 an14 : Option Addr} {sl14 : Array (Option Value)} {oc14 kV14 dc14 pm14 cd14 ct14 : Value} {f15 : Addr} {od15 an15 : Option Addr} {sl15 : Array (Option Value)} {oc15 kV15 dc15 pm15 cd15 ct15 : Value} {tk_SMALL : Tok} {tk_LONGEST : Tok} {tk_MOST_PARTS : Tok}
    (a0 : PySem.W.nsIn K mainGlobals "is_part" = some (some (.ref f0)))
    (l0 : K.lookup f0 = some ⟨oc0, od0, .func (PySem.W.fnOf "is_part" "is_part" (defArgs s_is_part) (defBody s_is_part) (defScope s_is_part) .none kV0 dc0 pm0 an0 cd0 ct0), sl0⟩)
    (c0 : PySem.W.codeIn K cd0 "is_part" = true)
    (k0 : PySem.W.keepIn K (.ref f0) = true)
    (a1 : PySem.W.nsIn K mainGlobals "is_name" = some (some (.ref f1)))
    (l1 : K.lookup f1 = some ⟨oc1, od1, .func (PySem.W.fnOf "is_name" "is_name" (defArgs s_is_name) (defBody s_is_name) (defScope s_is_name) .none kV1 dc1 pm1 an1 cd1 ct1), sl1⟩)
    (c1 : PySem.W.codeIn K cd1 "is_name" = true)
    (k1 : PySem.W.keepIn K (.ref f1) = true)
    (a2 : PySem.W.nsIn K mainGlobals "elder_of" = some (some (.ref f2)))
    (l2 : K.lookup f2 = some ⟨oc2, od2, .func (PySem.W.fnOf "elder_of" "elder_of" (defArgs s_elder_of) (defBody s_elder_of) (defScope s_elder_of) .none kV2 dc2 pm2 an2 cd2 ct2), sl2⟩)
    (c2 : PySem.W.codeIn K cd2 "elder_of" = true)
    (k2 : PySem.W.keepIn K (.ref f2) = true)
    (a3 : PySem.W.nsIn K mainGlobals "last_of" = some (some (.ref f3)))
    (l3 : K.lookup f3 = some ⟨oc3, od3, .func (PySem.W.fnOf "last_of" "last_of" (defArgs s_last_of) (defBody s_last_of) (defScope s_last_of) .none kV3 dc3 pm3 an3 cd3 ct3), sl3⟩)
    (c3 : PySem.W.codeIn K cd3 "last_of" = true)
    (k3 : PySem.W.keepIn K (.ref f3) = true)
    (a4 : PySem.W.nsIn K mainGlobals "elders" = some (some (.ref f4)))
    (l4 : K.lookup f4 = some ⟨oc4, od4, .func (PySem.W.fnOf "elders" "elders" (defArgs s_elders) (defBody s_elders) (defScope s_elders) .none kV4 dc4 pm4 an4 cd4 ct4), sl4⟩)
    (c4 : PySem.W.codeIn K cd4 "elders" = true)
    (k4 : PySem.W.keepIn K (.ref f4) = true)
    (a5 : PySem.W.nsIn K mainGlobals "_law_mixed" = some (some (.ref f5)))
    (l5 : K.lookup f5 = some ⟨oc5, od5, .func (PySem.W.fnOf "_law_mixed" "_law_mixed" (defArgs s_law_mixed) (defBody s_law_mixed) (defScope s_law_mixed) .none kV5 dc5 pm5 an5 cd5 ct5), sl5⟩)
    (c5 : PySem.W.codeIn K cd5 "_law_mixed" = true)
    (k5 : PySem.W.keepIn K (.ref f5) = true)
    (a6 : PySem.W.nsIn K mainGlobals "_law_cell" = some (some (.ref f6)))
    (l6 : K.lookup f6 = some ⟨oc6, od6, .func (PySem.W.fnOf "_law_cell" "_law_cell" (defArgs s_law_cell) (defBody s_law_cell) (defScope s_law_cell) .none kV6 dc6 pm6 an6 cd6 ct6), sl6⟩)
    (c6 : PySem.W.codeIn K cd6 "_law_cell" = true)
    (k6 : PySem.W.keepIn K (.ref f6) = true)
    (a7 : PySem.W.nsIn K mainGlobals "_law_take" = some (some (.ref f7)))
    (l7 : K.lookup f7 = some ⟨oc7, od7, .func (PySem.W.fnOf "_law_take" "_law_take" (defArgs s_law_take) (defBody s_law_take) (defScope s_law_take) .none kV7 dc7 pm7 an7 cd7 ct7), sl7⟩)
    (c7 : PySem.W.codeIn K cd7 "_law_take" = true)
    (k7 : PySem.W.keepIn K (.ref f7) = true)
    (a8 : PySem.W.nsIn K mainGlobals "_law_part_drawn" = some (some (.ref f8)))
    (l8 : K.lookup f8 = some ⟨oc8, od8, .func (PySem.W.fnOf "_law_part_drawn" "_law_part_drawn" (defArgs s_law_part_drawn) (defBody s_law_part_drawn) (defScope s_law_part_drawn) .none kV8 dc8 pm8 an8 cd8 ct8), sl8⟩)
    (c8 : PySem.W.codeIn K cd8 "_law_part_drawn" = true)
    (k8 : PySem.W.keepIn K (.ref f8) = true)
    (a9 : PySem.W.nsIn K mainGlobals "_law_name_drawn" = some (some (.ref f9)))
    (l9 : K.lookup f9 = some ⟨oc9, od9, .func (PySem.W.fnOf "_law_name_drawn" "_law_name_drawn" (defArgs s_law_name_drawn) (defBody s_law_name_drawn) (defScope s_law_name_drawn) .none kV9 dc9 pm9 an9 cd9 ct9), sl9⟩)
    (c9 : PySem.W.codeIn K cd9 "_law_name_drawn" = true)
    (k9 : PySem.W.keepIn K (.ref f9) = true)
    (a10 : PySem.W.nsIn K mainGlobals "_law_is_part" = some (some (.ref f10)))
    (l10 : K.lookup f10 = some ⟨oc10, od10, .func (PySem.W.fnOf "_law_is_part" "_law_is_part" (defArgs s_law_is_part) (defBody s_law_is_part) (defScope s_law_is_part) .none kV10 dc10 pm10 an10 cd10 ct10), sl10⟩)
    (c10 : PySem.W.codeIn K cd10 "_law_is_part" = true)
    (k10 : PySem.W.keepIn K (.ref f10) = true)
    (a11 : PySem.W.nsIn K mainGlobals "_law_is_name" = some (some (.ref f11)))
    (l11 : K.lookup f11 = some ⟨oc11, od11, .func (PySem.W.fnOf "_law_is_name" "_law_is_name" (defArgs s_law_is_name) (defBody s_law_is_name) (defScope s_law_is_name) .none kV11 dc11 pm11 an11 cd11 ct11), sl11⟩)
    (c11 : PySem.W.codeIn K cd11 "_law_is_name" = true)
    (k11 : PySem.W.keepIn K (.ref f11) = true)
    (a12 : PySem.W.nsIn K mainGlobals "_law_truths_good" = some (some (.ref f12)))
    (l12 : K.lookup f12 = some ⟨oc12, od12, .func (PySem.W.fnOf "_law_truths_good" "_law_truths_good" (defArgs s_law_truths_good) (defBody s_law_truths_good) (defScope s_law_truths_good) .none kV12 dc12 pm12 an12 cd12 ct12), sl12⟩)
    (c12 : PySem.W.codeIn K cd12 "_law_truths_good" = true)
    (k12 : PySem.W.keepIn K (.ref f12) = true)
    (a13 : PySem.W.nsIn K mainGlobals "_law_parts_good" = some (some (.ref f13)))
    (l13 : K.lookup f13 = some ⟨oc13, od13, .func (PySem.W.fnOf "_law_parts_good" "_law_parts_good" (defArgs s_law_parts_good) (defBody s_law_parts_good) (defScope s_law_parts_good) .none kV13 dc13 pm13 an13 cd13 ct13), sl13⟩)
    (c13 : PySem.W.codeIn K cd13 "_law_parts_good" = true)
    (k13 : PySem.W.keepIn K (.ref f13) = true)
    (a14 : PySem.W.nsIn K mainGlobals "_law_bent" = some (some (.ref f14)))
    (l14 : K.lookup f14 = some ⟨oc14, od14, .func (PySem.W.fnOf "_law_bent" "_law_bent" (defArgs s_law_bent) (defBody s_law_bent) (defScope s_law_bent) .none kV14 dc14 pm14 an14 cd14 ct14), sl14⟩)
    (c14 : PySem.W.codeIn K cd14 "_law_bent" = true)
    (k14 : PySem.W.keepIn K (.ref f14) = true)
    (a15 : PySem.W.nsIn K mainGlobals "law" = some (some (.ref f15)))
    (l15 : K.lookup f15 = some ⟨oc15, od15, .func (PySem.W.fnOf "law" "law" (defArgs s_law) (defBody s_law) (defScope s_law) .none kV15 dc15 pm15 an15 cd15 ct15), sl15⟩)
    (c15 : PySem.W.codeIn K cd15 "law" = true)
    (k15 : PySem.W.keepIn K (.ref f15) = true)
    (z_isinstance : PySem.W.nsIn K mainGlobals "isinstance" = some none)
    (z_str : PySem.W.nsIn K mainGlobals "str" = some none)
    (z_bool : PySem.W.nsIn K mainGlobals "bool" = some none)
    (z_list : PySem.W.nsIn K mainGlobals "list" = some none)
    (z_len : PySem.W.nsIn K mainGlobals "len" = some none)
    (z_all : PySem.W.nsIn K mainGlobals "all" = some none)
    (z_range : PySem.W.nsIn K mainGlobals "range" = some none)
    (c_SMALL : PySem.W.nsIn K mainGlobals "SMALL" = some (some (.str "abcdefghijklmnopqrstuvwxyz" tk_SMALL)))
    (c_LONGEST : PySem.W.nsIn K mainGlobals "LONGEST" = some (some (.int 8 tk_LONGEST)))
    (c_MOST_PARTS : PySem.W.nsIn K mainGlobals "MOST_PARTS" = some (some (.int 4 tk_MOST_PARTS))) :
    ∃ fd : FuncData, (∀ (s : Shared) (v : Value), BindsTo s fd ⟨[v], []⟩ [("_law_script", v)]) ∧ ∀ base : Heap, K.In base → base.Ns mainGlobals mg → FnOk l.prog w K mg base CX0 4 fa fd ["_law_script"] (spLaw K) := by
  have e := hfa.symm.trans (PySem.W.mg_of X G a15)
  cases e
  have T : Glb mg := { z_isinstance := PySem.W.mg_none_of X G z_isinstance, z_str := PySem.W.mg_none_of X G z_str, z_bool := PySem.W.mg_none_of X G z_bool, z_list := PySem.W.mg_none_of X G z_list, z_len := PySem.W.mg_none_of X G z_len, z_all := PySem.W.mg_none_of X G z_all, z_range := PySem.W.mg_none_of X G z_range, c_SMALL := ⟨_, PySem.W.mg_of X G c_SMALL, ⟨_, rfl⟩⟩, c_LONGEST := ⟨_, PySem.W.mg_of X G c_LONGEST, ⟨_, rfl⟩⟩, c_MOST_PARTS := ⟨_, PySem.W.mg_of X G c_MOST_PARTS, ⟨_, rfl⟩⟩ }
  have F0 := fun_mk (st := s_is_part) l0 c0 k0
  have F1 := fun_mk (st := s_is_name) l1 c1 k1
  have F2 := fun_mk (st := s_elder_of) l2 c2 k2
  have F3 := fun_mk (st := s_last_of) l3 c3 k3
  have F4 := fun_mk (st := s_elders) l4 c4 k4
  have F5 := fun_mk (st := s_law_mixed) l5 c5 k5
  have F6 := fun_mk (st := s_law_cell) l6 c6 k6
  have F7 := fun_mk (st := s_law_take) l7 c7 k7
  have F8 := fun_mk (st := s_law_part_drawn) l8 c8 k8
  have F9 := fun_mk (st := s_law_name_drawn) l9 c9 k9
  have F10 := fun_mk (st := s_law_is_part) l10 c10 k10
  have F11 := fun_mk (st := s_law_is_name) l11 c11 k11
  have F12 := fun_mk (st := s_law_truths_good) l12 c12 k12
  have F13 := fun_mk (st := s_law_parts_good) l13 c13 k13
  have F14 := fun_mk (st := s_law_bent) l14 c14 k14
  have F15 := fun_mk (st := s_law) l15 c15 k15
  refine ⟨_, fun s v => BindsTo.of_eq (fd := PySem.W.fnOf "law" "law" (defArgs s_law) (defBody s_law) (defScope s_law) .none kV15 dc15 pm15 an15 cd15 ct15) rfl, fun base _ _ => ?_⟩
  have D_is_part : DefK l.prog w K mg base CX0 "is_part" s_is_part 1 ["thing"] (PF K dom1 (fun ds => .bl (isPartD (hd0 ds)))) := ⟨⟨_, _, F0, ok_is_part F0 T, PySem.W.mg_of X G a0⟩, fun f fd F => F.binds (ps := ["thing"]) fun _ _ _ _ _ _ us hl => match us, hl with | [_], _ => rfl⟩
  have D_is_name : DefK l.prog w K mg base CX0 "is_name" s_is_name 2 ["thing"] (PF K dom1 (fun ds => .bl (isNameD (hd0 ds)))) := ⟨⟨_, _, F1, ok_is_name F1 T D_is_part, PySem.W.mg_of X G a1⟩, fun f fd F => F.binds (ps := ["thing"]) fun _ _ _ _ _ _ us hl => match us, hl with | [_], _ => rfl⟩
  have D_elder_of : DefK l.prog w K mg base CX0 "elder_of" s_elder_of 1 ["name"] (PF K domS (fun ds => elderD (txt (hd0 ds)))) := ⟨⟨_, _, F2, ok_elder_of F2 T, PySem.W.mg_of X G a2⟩, fun f fd F => F.binds (ps := ["name"]) fun _ _ _ _ _ _ us hl => match us, hl with | [_], _ => rfl⟩
  have D_last_of : DefK l.prog w K mg base CX0 "last_of" s_last_of 1 ["name"] (PF K domS (fun ds => .str (lastS (txt (hd0 ds))))) := ⟨⟨_, _, F3, ok_last_of F3 T, PySem.W.mg_of X G a3⟩, fun f fd F => F.binds (ps := ["name"]) fun _ _ _ _ _ _ us hl => match us, hl with | [_], _ => rfl⟩
  have D_elders : DefK l.prog w K mg base CX0 "elders" s_elders 1 ["name"] (PL K domS (fun ds => strsD (eldersS (txt (hd0 ds))))) := ⟨⟨_, _, F4, ok_elders F4 T, PySem.W.mg_of X G a4⟩, fun f fd F => F.binds (ps := ["name"]) fun _ _ _ _ _ _ us hl => match us, hl with | [_], _ => rfl⟩
  have D_law_mixed : DefK l.prog w K mg base CX0 "_law_mixed" s_law_mixed 1 ["_law_cell_here", "_law_k"] (spMixed K) := ⟨⟨_, _, F5, ok_mixed F5, PySem.W.mg_of X G a5⟩, fun f fd F => F.binds (ps := ["_law_cell_here", "_law_k"]) fun _ _ _ _ _ _ us hl => match us, hl with | [_, _], _ => rfl⟩
  have D_law_cell : DefK l.prog w K mg base CX0 "_law_cell" s_law_cell 2 ["_law_script", "_law_k"] (spCell K) := ⟨⟨_, _, F6, ok_cell F6 T D_law_mixed, PySem.W.mg_of X G a6⟩, fun f fd F => F.binds (ps := ["_law_script", "_law_k"]) fun _ _ _ _ _ _ us hl => match us, hl with | [_, _], _ => rfl⟩
  have D_law_take : DefK l.prog w K mg base CX0 "_law_take" s_law_take 1 ["_law_pile", "_law_size"] (spTake K) := ⟨⟨_, _, F7, ok_take F7, PySem.W.mg_of X G a7⟩, fun f fd F => F.binds (ps := ["_law_pile", "_law_size"]) fun _ _ _ _ _ _ us hl => match us, hl with | [_, _], _ => rfl⟩
  have D_law_part_drawn : DefK l.prog w K mg base CX0 "_law_part_drawn" s_law_part_drawn 2 ["_law_pile"] (spPart K) := ⟨⟨_, _, F8, ok_part_drawn F8 T D_law_take, PySem.W.mg_of X G a8⟩, fun f fd F => F.binds (ps := ["_law_pile"]) fun _ _ _ _ _ _ us hl => match us, hl with | [_], _ => rfl⟩
  have D_law_name_drawn : DefK l.prog w K mg base CX0 "_law_name_drawn" s_law_name_drawn 3 ["_law_pile", "_law_most"] (spName K) := ⟨⟨_, _, F9, ok_name_drawn F9 T D_law_take D_law_part_drawn, PySem.W.mg_of X G a9⟩, fun f fd F => F.binds (ps := ["_law_pile", "_law_most"]) fun _ _ _ _ _ _ us hl => match us, hl with | [_, _], _ => rfl⟩
  have D_law_is_part : DefK l.prog w K mg base CX0 "_law_is_part" s_law_is_part 1 ["_law_thing_told"] (PF K dom1 (fun ds => .bl (isPartD (hd0 ds)))) := ⟨⟨_, _, F10, ok_law_is_part F10 T, PySem.W.mg_of X G a10⟩, fun f fd F => F.binds (ps := ["_law_thing_told"]) fun _ _ _ _ _ _ us hl => match us, hl with | [_], _ => rfl⟩
  have D_law_is_name : DefK l.prog w K mg base CX0 "_law_is_name" s_law_is_name 2 ["_law_thing_told"] (PF K dom1 (fun ds => .bl (isNameD (hd0 ds)))) := ⟨⟨_, _, F11, ok_law_is_name F11 T D_law_is_part, PySem.W.mg_of X G a11⟩, fun f fd F => F.binds (ps := ["_law_thing_told"]) fun _ _ _ _ _ _ us hl => match us, hl with | [_], _ => rfl⟩
  have D_law_truths_good : DefK l.prog w K mg base CX0 "_law_truths_good" s_law_truths_good 3 ["_law_thing_told"] (PF K dom1 (fun _ => .bl true)) := ⟨⟨_, _, F12, ok_truths F12 T D_is_part D_is_name D_law_is_part D_law_is_name, PySem.W.mg_of X G a12⟩, fun f fd F => F.binds (ps := ["_law_thing_told"]) fun _ _ _ _ _ _ us hl => match us, hl with | [_], _ => rfl⟩
  have D_law_parts_good : DefK l.prog w K mg base CX0 "_law_parts_good" s_law_parts_good 2 ["_law_name_told"] (PF K domL (fun _ => .bl true)) := ⟨⟨_, _, F13, ok_parts_good F13 T D_elders D_elder_of D_last_of, PySem.W.mg_of X G a13⟩, fun f fd F => F.binds (ps := ["_law_name_told"]) fun _ _ _ _ _ _ us hl => match us, hl with | [_], _ => rfl⟩
  have D_law_bent : DefK l.prog w K mg base CX0 "_law_bent" s_law_bent 2 ["_law_pile", "_law_name_told"] (PP K (fun ds => ∃ z, ds = [.str z] ∧ z.length ≤ 1000) bentD) := ⟨⟨_, _, F14, ok_bent F14 T D_law_take, PySem.W.mg_of X G a14⟩, fun f fd F => F.binds (ps := ["_law_pile", "_law_name_told"]) fun _ _ _ _ _ _ us hl => match us, hl with | [_, _], _ => rfl⟩
  exact ok_law F15 T D_law_truths_good D_law_cell D_law_name_drawn D_law_parts_good D_law_bent
end K01
open PySem PySem.W PyProof.Rows
set_option maxRecDepth 100000 in
set_option maxHeartbeats 0 in
theorem PySem.Challenge.cw_loadhall_k01_parts_and_names_holds : PySem.Challenge.rw_loadhall_k01_parts_and_names.Holds := by
  w_on; o_law; k_head; (case hw => w_witness2)
  k_fill
  refine L2.walk_of (l := PySem.Challenge.rw_loadhall_k01_parts_and_names) (n := 63) (k := 4) (x := "_law_script") (CX := fun _ => L2.CX0) (sp := fun w => K01.spLaw _) rfl (by decide) rfl ⟨rfl, by decide, by decide⟩ (fun w h Y => PySem.W.kIn_of Y) ?F (fun _ _ a ns hl _ hS => ⟨a, ns, rfl, hS, hl, fun _ => rfl⟩) (fun _ _ _ _ _ h => h)
  case F =>
    intro w mg fa h KX G hmg
    refine' K01.all_mk KX G hmg ?a0 ?l0 ?c0 ?k0 ?a1 ?l1 ?c1 ?k1 ?a2 ?l2 ?c2 ?k2 ?a3 ?l3 ?c3 ?k3 ?a4 ?l4 ?c4 ?k4 ?a5 ?l5 ?c5 ?k5 ?a6 ?l6 ?c6 ?k6 ?a7 ?l7 ?c7 ?k7 ?a8 ?l8 ?c8 ?k8 ?a9 ?l9 ?c9 ?k9 ?a10 ?l10 ?c10 ?k10 ?a11 ?l11 ?c11 ?k11 ?a12 ?l12 ?c12 ?k12 ?a13 ?l13 ?c13 ?k13 ?a14 ?l14 ?c14 ?k14 ?a15 ?l15 ?c15 ?k15 ?z_isinstance ?z_str ?z_bool ?z_list ?z_len ?z_all ?z_range ?c_SMALL ?c_LONGEST ?c_MOST_PARTS
    (case a0 => k_is); (case l0 => k_is); (case c0 => k_is); (case k0 => k_is)
    (case a1 => k_is); (case l1 => k_is); (case c1 => k_is); (case k1 => k_is)
    (case a2 => k_is); (case l2 => k_is); (case c2 => k_is); (case k2 => k_is)
    (case a3 => k_is); (case l3 => k_is); (case c3 => k_is); (case k3 => k_is)
    (case a4 => k_is); (case l4 => k_is); (case c4 => k_is); (case k4 => k_is)
    (case a5 => k_is); (case l5 => k_is); (case c5 => k_is); (case k5 => k_is)
    (case a6 => k_is); (case l6 => k_is); (case c6 => k_is); (case k6 => k_is)
    (case a7 => k_is); (case l7 => k_is); (case c7 => k_is); (case k7 => k_is)
    (case a8 => k_is); (case l8 => k_is); (case c8 => k_is); (case k8 => k_is)
    (case a9 => k_is); (case l9 => k_is); (case c9 => k_is); (case k9 => k_is)
    (case a10 => k_is); (case l10 => k_is); (case c10 => k_is); (case k10 => k_is)
    (case a11 => k_is); (case l11 => k_is); (case c11 => k_is); (case k11 => k_is)
    (case a12 => k_is); (case l12 => k_is); (case c12 => k_is); (case k12 => k_is)
    (case a13 => k_is); (case l13 => k_is); (case c13 => k_is); (case k13 => k_is)
    (case a14 => k_is); (case l14 => k_is); (case c14 => k_is); (case k14 => k_is)
    (case a15 => k_is); (case l15 => k_is); (case c15 => k_is); (case k15 => k_is)
    (case z_isinstance => k_is); (case z_str => k_is); (case z_bool => k_is); (case z_list => k_is)
    (case z_len => k_is); (case z_all => k_is); (case z_range => k_is); (case c_SMALL => k_is)
    (case c_LONGEST => k_is); (case c_MOST_PARTS => k_is)
